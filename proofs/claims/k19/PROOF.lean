import PyProof.Rows.All
import Wide.All
import OpenK.AllK
import Wide.FinOn
import KE.Datum
import HandS.ForMost
import HandS.ForExc
import HandS.Wide
import HandS.CallSlots
import HandS.ExcInit
import HandS.TryMany
import HandS.Style
import HandS.Deep
import HandS.SortInts
import HandS.TupAny
import KE.KSortedM
import KE.KExcSuper
import HandS.ExcField
import KE.KRevSl
import KE.RegKSuper
import HandS.IsInst
import HandS.Dict
import HandS.NoneIn
import KE.KDictDisplayH
import PyProof.DictFindH
import KE.SortData
import HandS.SortRule
import HandS.TupMul
import KE.KTupSum
import PySem.Challenge.RW_formsoftwo_k19_whole_sums_of_roots_of_on
set_option Elab.async false
set_option linter.all false
set_option maxRecDepth 100000
set_option maxHeartbeats 9000000
namespace DL
open PySem
open PySem.Spec
open PyProof.Rows
open L2
abbrev D := PyData
abbrev tokD : D := .dict [(.none, .none)]
abbrev G := Int × List Int
abbrev DK := List (List Int × Int)
inductive SV where
  | un
  | d (x : D)
  | own (xs : List D)
  | ex (fs : List (Str × D))
  | odc (kvs : DK)
abbrev RS := List SV
structure Ctx where
  K : PySem.W.Frag
  cl : Str → Option Addr
  sa : Addr
  sb : Addr
  F0 : Hp
  H0 : Hp
  ea : Addr
  ed : Addr
abbrev mkC (K : PySem.W.Frag) (cl : Str → Option Addr) (sa sb : Addr) (F0 H0 : Hp) : Ctx := { K := K, cl := cl, sa := sa, sb := sb, F0 := F0, H0 := H0, ea := 0, ed := 0 }
abbrev Ctx.at (c : Ctx) (a d : Addr) : Ctx := { c with ea := a, ed := d }
inductive Out (α : Type) where
  | ok (a : α) (g : G)
  | exc (n : Str) (fs : List (Str × D)) (g : G)
  | bad
inductive SO where
  | nx (ρ : RS) (g : G)
  | rt (d : D) (g : G)
  | bk (ρ : RS) (g : G)
  | ct (ρ : RS) (g : G)
  | exc (n : Str) (fs : List (Str × D)) (ρ : RS) (g : G)
  | bad
def Out.bind {α β : Type} : Out α → (α → G → Out β) → Out β
  | .ok a g, k => k a g
  | .exc n fs g, _ => .exc n fs g
  | .bad, _ => .bad
def Out.go {α : Type} : Out α → RS → (α → G → SO) → SO
  | .ok a g, _, k => k a g
  | .exc n fs g, ρ, _ => .exc n fs ρ g
  | .bad, _, _ => .bad
abbrev EF := RS → G → Out D
abbrev TF := RS → G → Out Bool
abbrev AF := RS → G → Out (List D)
abbrev SF := RS → G → SO
theorem seqT_mono {K : PySem.W.Frag} {F F' : Hp} {a : Addr} {xs : List V} (e : Same F F') (h : SqT K F a xs) : SqT K F' a xs := by
  rcases h with (h | ⟨o, h⟩) | h
  · exact .inl (.inl (e _ _ h))
  · exact .inl (.inr ⟨o, e _ _ h⟩)
  · exact .inr h
mutual
inductive Rq (K : PySem.W.Frag) (F : Hp) : V → D → Prop
  | non : Rq K F .non .none
  | bl (b : Bool) : Rq K F (.bl b) (.bool b)
  | int (i : Int) : Rq K F (.int i) (.int i)
  | str (x : Str) : Rq K F (.str x) (.str x)
  | lst {a : Addr} {xs : List V} {ds : List D} : F a = some (.lst xs) → RqAll K F xs ds → Rq K F (.ref a) (.list ds)
  | tup {a : Addr} {xs : List V} {ds : List D} : SqT K F a xs → RqAll K F xs ds → Rq K F (.ref a) (.tuple ds)
inductive RqAll (K : PySem.W.Frag) (F : Hp) : List V → List D → Prop
  | nil : RqAll K F [] []
  | cons {v : V} {vs : List V} {d : D} {ds : List D} : Rq K F v d → RqAll K F vs ds → RqAll K F (v :: vs) (d :: ds)
end
mutual
theorem Rq_mono {K : PySem.W.Frag} {F F' : Hp} (e : Same F F') : ∀ (d : D) (v : V), Rq K F v d → Rq K F' v d
  | .none, _, h => by cases h; exact .non
  | .bool _, _, h => by cases h; exact .bl _
  | .int _, _, h => by cases h; exact .int _
  | .str _, _, h => by cases h; exact .str _
  | .list ds, _, h => by
    cases h with
    | lst h1 h2 => exact .lst (e _ _ h1) (RqAll_mono e ds _ h2)
  | .tuple ds, _, h => by
    cases h with
    | tup h1 h2 => exact .tup (seqT_mono e h1) (RqAll_mono e ds _ h2)
  | .dict _, _, h => by cases h
theorem RqAll_mono {K : PySem.W.Frag} {F F' : Hp} (e : Same F F') : ∀ (ds : List D) (vs : List V), RqAll K F vs ds → RqAll K F' vs ds
  | [], _, h => by cases h; exact .nil
  | d :: ds, _, h => by
    cases h with
    | cons h1 h2 => exact .cons (Rq_mono e d _ h1) (RqAll_mono e ds _ h2)
end
mutual
theorem Rq_dp {K : PySem.W.Frag} {F : Hp} : ∀ (d : D) (v : V), Rq K F v d → Dp K F v d
  | .none, _, h => by cases h; exact .non
  | .bool _, _, h => by cases h; exact .bl _
  | .int _, _, h => by cases h; exact .int _
  | .str _, _, h => by cases h; exact .str _
  | .list ds, _, h => by
    cases h with
    | lst h1 h2 => exact .lst (SqL.of h1) (RqAll_dp ds _ h2)
  | .tuple ds, _, h => by
    cases h with
    | tup h1 h2 => exact .tup h1 (RqAll_dp ds _ h2)
  | .dict _, _, h => by cases h
theorem RqAll_dp {K : PySem.W.Frag} {F : Hp} : ∀ (ds : List D) (vs : List V), RqAll K F vs ds → DpAll K F vs ds
  | [], _, h => by cases h; exact .nil
  | d :: ds, _, h => by
    cases h with
    | cons h1 h2 => exact .cons (Rq_dp d _ h1) (RqAll_dp ds _ h2)
end
abbrev dKV (kvs : DK) : List (List L2.Key × V) := kvs.map fun p => (p.1.map Sum.inl, .int p.2)
abbrev dicD (kvs : DK) : D := .dict (kvs.map fun p => (.tuple (p.1.map .int), .int p.2))
abbrev rngD (lo hi : Int) : D := .dict [(.none, .int lo), (.none, .int hi)]
def isDic : D → Bool
  | .dict _ => true
  | _ => false
inductive Spc (F : Hp) : V → D → Prop
  | dic {a : Addr} (kvs : DK) : F a = some (.dT (dKV kvs)) → Spc F (.ref a) (dicD kvs)
  | rng {a : Addr} (lo hi : Int) : F a = some (.rng lo hi) → Spc F (.ref a) (rngD lo hi)
theorem Spc.mono {F F' : Hp} {v : V} {d : D} (e : Same F F') (h : Spc F v d) : Spc F' v d := by
  cases h with
  | dic kvs h => exact .dic kvs (e _ _ h)
  | rng lo hi h => exact .rng lo hi (e _ _ h)
theorem Spc.notTok {F : Hp} {v : V} (h : Spc F v tokD) : False := by
  generalize e : tokD = d at h
  cases h with
  | dic kvs h =>
    injection e with e
    cases kvs with
    | nil => cases e
    | cons p r => injection e with e1 e2; injection e1 with e3 e4; cases e3
  | rng lo hi h => injection e with e; injection e with e1 e2; cases e2
def Rep (c : Ctx) (F : Hp) (v : V) (d : D) : Prop := Rq c.K F v d ∨ (((v = .ref c.sa ∧ d = tokD) ∨ Spc F v d) ∧ isDic d = true)
theorem Rep.mono {c : Ctx} {F F' : Hp} {v : V} {d : D} (e : Same F F') (h : Rep c F v d) : Rep c F' v d := h.imp (Rq_mono e d v) fun x => ⟨x.1.imp id (Spc.mono e), x.2⟩
theorem Rep.rq {c : Ctx} {F : Hp} {v : V} {d : D} (h : Rep c F v d) (n : isDic d = false) : Rq c.K F v d := h.elim id fun x => (by rw [n] at x; exact absurd x.2 (by decide))
theorem repDic {c : Ctx} {F : Hp} {a : Addr} {kvs : DK} (h : F a = some (.dT (dKV kvs))) : Rep c F (.ref a) (dicD kvs) := .inr ⟨.inr (.dic kvs h), rfl⟩
theorem repRng {c : Ctx} {F : Hp} {a : Addr} {lo hi : Int} (h : F a = some (.rng lo hi)) : Rep c F (.ref a) (rngD lo hi) := .inr ⟨.inr (.rng lo hi h), rfl⟩
theorem repTok {c : Ctx} {F : Hp} : Rep c F (.ref c.sa) tokD := .inr ⟨.inl ⟨rfl, rfl⟩, rfl⟩
theorem Rep.int {c : Ctx} {F : Hp} {v : V} {i : Int} (h : Rep c F v (.int i)) : v = .int i := by
  rcases h with h | ⟨_, h⟩
  · cases h; rfl
  · cases h
theorem Rep.bl {c : Ctx} {F : Hp} {v : V} {b : Bool} (h : Rep c F v (.bool b)) : v = .bl b := by
  rcases h with h | ⟨_, h⟩
  · cases h; rfl
  · cases h
theorem Rep.non {c : Ctx} {F : Hp} {v : V} (h : Rep c F v .none) : v = .non := by
  rcases h with h | ⟨_, h⟩
  · cases h; rfl
  · cases h
theorem Rep.str {c : Ctx} {F : Hp} {v : V} {x : Str} (h : Rep c F v (.str x)) : v = .str x := by
  rcases h with h | ⟨_, h⟩
  · cases h; rfl
  · cases h
theorem Rep.list {c : Ctx} {F : Hp} {v : V} {ds : List D} (h : Rep c F v (.list ds)) : ∃ a vs, v = .ref a ∧ F a = some (.lst vs) ∧ RqAll c.K F vs ds := by
  rcases h with h | ⟨_, h⟩
  · cases h with
    | lst h1 h2 => exact ⟨_, _, rfl, h1, h2⟩
  · cases h
theorem Rep.tuple {c : Ctx} {F : Hp} {v : V} {ds : List D} (h : Rep c F v (.tuple ds)) : ∃ a vs, v = .ref a ∧ SqT c.K F a vs ∧ RqAll c.K F vs ds := by
  rcases h with h | ⟨_, h⟩
  · cases h with
    | tup h1 h2 => exact ⟨_, _, rfl, h1, h2⟩
  · cases h
theorem rInt {c : Ctx} {F : Hp} {i : Int} : Rep c F (.int i) (.int i) := .inl (.int i)
theorem rBl {c : Ctx} {F : Hp} {b : Bool} : Rep c F (.bl b) (.bool b) := .inl (.bl b)
theorem rNon {c : Ctx} {F : Hp} : Rep c F .non .none := .inl .non
theorem rStr {c : Ctx} {F : Hp} {x : Str} : Rep c F (.str x) (.str x) := .inl (.str x)
inductive RepAll (c : Ctx) (F : Hp) : List V → List D → Prop
  | nil : RepAll c F [] []
  | cons {v : V} {vs : List V} {d : D} {ds : List D} : Rep c F v d → RepAll c F vs ds → RepAll c F (v :: vs) (d :: ds)
theorem RepAll.mono {c : Ctx} {F F' : Hp} (e : Same F F') : ∀ {vs : List V} {ds : List D}, RepAll c F vs ds → RepAll c F' vs ds
  | _, _, .nil => .nil
  | _, _, .cons h t => .cons (h.mono e) (RepAll.mono e t)
theorem RepAll.length {c : Ctx} {F : Hp} : ∀ {vs : List V} {ds : List D}, RepAll c F vs ds → vs.length = ds.length
  | _, _, .nil => rfl
  | _, _, .cons _ t => by rw [List.length_cons, List.length_cons, RepAll.length t]
theorem RqAll.len {K : PySem.W.Frag} {F : Hp} : ∀ {vs : List V} {ds : List D}, RqAll K F vs ds → vs.length = ds.length
  | _, _, .nil => rfl
  | _, _, .cons _ t => by rw [List.length_cons, List.length_cons, RqAll.len t]
theorem RqAll.get {K : PySem.W.Frag} {F : Hp} : ∀ {vs : List V} {ds : List D} {i : Nat} {d : D}, RqAll K F vs ds → ds[i]? = some d → ∃ v, vs[i]? = some v ∧ Rq K F v d
  | _, _, _, _, .nil, h => by simp at h
  | _, _, 0, _, .cons h _, e => by
    simp at e
    exact ⟨_, rfl, by rw [← e]; exact h⟩
  | _, _, i + 1, d, .cons _ t, e => by
    obtain ⟨v, h1, h2⟩ := RqAll.get (i := i) (d := d) t (by simpa using e)
    exact ⟨v, by simpa using h1, h2⟩
theorem RqAll.append {K : PySem.W.Frag} {F : Hp} : ∀ {vs ws : List V} {ds es : List D}, RqAll K F vs ds → RqAll K F ws es → RqAll K F (vs ++ ws) (ds ++ es)
  | _, _, _, _, .nil, h => h
  | _, _, _, _, .cons h t, k => .cons h (RqAll.append t k)
theorem RqAll.drop {K : PySem.W.Frag} {F : Hp} : ∀ {vs : List V} {ds : List D} (n : Nat), RqAll K F vs ds → RqAll K F (vs.drop n) (ds.drop n)
  | _, _, 0, h => h
  | _, _, _ + 1, .nil => .nil
  | _, _, n + 1, .cons _ t => RqAll.drop n t
theorem RqAll.take {K : PySem.W.Frag} {F : Hp} : ∀ {vs : List V} {ds : List D} (n : Nat), RqAll K F vs ds → RqAll K F (vs.take n) (ds.take n)
  | _, _, 0, _ => .nil
  | _, _, _ + 1, .nil => .nil
  | _, _, n + 1, .cons h t => .cons h (RqAll.take n t)
theorem RqAll.ints {K : PySem.W.Frag} {F : Hp} : ∀ {vs : List V} {ns : List Int}, RqAll K F vs (ns.map PyData.int) → vs = ns.map V.int
  | _, [], h => by cases h; rfl
  | _, n :: ns, h => by
    cases h with
    | cons h t =>
      cases h
      rw [RqAll.ints t]
      rfl
theorem RqAll.bls {K : PySem.W.Frag} {F : Hp} : ∀ {vs : List V} {ns : List Bool}, RqAll K F vs (ns.map PyData.bool) → vs = ns.map V.bl
  | _, [], h => by cases h; rfl
  | _, n :: ns, h => by
    cases h with
    | cons h t =>
      cases h
      rw [RqAll.bls t]
      rfl
theorem dpInts {K : PySem.W.Frag} {F : Hp} : ∀ (ns : List Int), RqAll K F (ns.map V.int) (ns.map PyData.int)
  | [] => .nil
  | n :: ns => .cons (.int n) (dpInts ns)
theorem RqAll.set {K : PySem.W.Frag} {F : Hp} {v : V} {d : D} (h : Rq K F v d) : ∀ {vs : List V} {ds : List D} (i : Nat), RqAll K F vs ds → RqAll K F (vs.set i v) (ds.set i d)
  | _, _, _, .nil => .nil
  | _, _, 0, .cons _ t => .cons h t
  | _, _, i + 1, .cons q t => .cons q (RqAll.set h i t)
structure GOk (c : Ctx) (F H : Hp) (g : G) : Prop where
  ne : c.sa ≠ c.sb
  ha : H c.sa = some (.lst [.int g.1, .ref c.sb])
  hb : H c.sb = some (.lst (g.2.map V.int))
  fa : F c.sa = none
  fb : F c.sb = none
  wf : g.2 ≠ []
structure Ext (sa sb : Addr) (F H F' H' : Hp) : Prop where
  f : Same F F'
  fh : Same F' H'
  keep : ∀ p o, H p = some o → p ≠ sa → p ≠ sb → H' p = some o
  dom : ∀ p o, H p = some o → ∃ o', H' p = some o'
  ff : ∀ p o, H p = some o → F' p = F p
theorem Ext.refl {sa sb : Addr} {F H : Hp} (h : Same F H) : Ext sa sb F H F H := ⟨Same.refl F, h, fun _ _ h _ _ => h, fun _ o h => ⟨o, h⟩, fun _ _ _ => rfl⟩
theorem Ext.trans {sa sb : Addr} {F H F1 H1 F2 H2 : Hp} (a : Ext sa sb F H F1 H1) (b : Ext sa sb F1 H1 F2 H2) : Ext sa sb F H F2 H2 where
  f := a.f.trans b.f
  fh := b.fh
  keep := fun p o h n m => b.keep p o (a.keep p o h n m) n m
  dom := fun p o h => by
    obtain ⟨o', h'⟩ := a.dom p o h
    exact b.dom p o' h'
  ff := fun p o h => by
    obtain ⟨o', h'⟩ := a.dom p o h
    rw [b.ff p o' h', a.ff p o h]
def FldR (c : Ctx) (F : Hp) (vs : List (Str × V)) (fs : List (Str × D)) : Prop := Paired (fun (p : Str × V) (q : Str × D) => p.1 = q.1 ∧ Rq c.K F p.2 q.2) vs fs
theorem FldR.mono {c : Ctx} {F F' : Hp} (e : Same F F') : ∀ {vs : List (Str × V)} {fs : List (Str × D)}, FldR c F vs fs → FldR c F' vs fs
  | _, _, .nil => .nil
  | _, _, .cons h t => .cons ⟨h.1, Rq_mono e _ _ h.2⟩ (FldR.mono e t)
def SlotR (c : Ctx) (F H : Hp) (o : Option (Option V)) : SV → Prop
  | .un => True
  | .d x => ∃ v, o = some (some v) ∧ Rep c F v x
  | .own xs => ∃ a vs, o = some (some (.ref a)) ∧ H a = some (.lst vs) ∧ RqAll c.K F vs xs ∧ F a = none ∧ c.H0 a = none
  | .ex fs => ∃ vs, o = some (some (.ref c.ea)) ∧ H c.ed = some (.xd vs) ∧ FldR c F vs fs
  | .odc kvs => ∃ a, o = some (some (.ref a)) ∧ H a = some (.dT (dKV kvs)) ∧ F a = none ∧ c.H0 a = none
structure SR (c : Ctx) (F H : Hp) (σ : L2.St) (ρ : RS) (g : G) : Prop where
  ext : Ext c.sa c.sb c.F0 c.H0 F H
  gok : GOk c F H g
  g0 : ∃ o o', c.H0 c.sa = some o ∧ c.H0 c.sb = some o'
  len : σ.length = ρ.length
  slots : ∀ (i : Nat) (x : SV), ρ[i]? = some x → SlotR c F H σ[i]? x
  sep : ∀ (i j : Nat) (xs ys : List D) (a : Addr), ρ[i]? = some (.own xs) → ρ[j]? = some (.own ys) → σ[i]? = some (some (.ref a)) → σ[j]? = some (some (.ref a)) → i = j
theorem SR.fh {c : Ctx} {F H : Hp} {σ : L2.St} {ρ : RS} {g : G} (s : SR c F H σ ρ g) : Same F H := s.ext.fh
theorem SR.ownNe {c : Ctx} {F H : Hp} {σ : L2.St} {ρ : RS} {g : G} (s : SR c F H σ ρ g) {a : Addr} (h : c.H0 a = none) : a ≠ c.sa ∧ a ≠ c.sb := by
  obtain ⟨o, o', h1, h2⟩ := s.g0
  exact ⟨fun e => (by rw [e, h1] at h; cases h), fun e => (by rw [e, h2] at h; cases h)⟩
theorem SR.ext' {c : Ctx} {F H F' H' : Hp} {σ : L2.St} {ρ : RS} {g g' : G} (s : SR c F H σ ρ g) (e : Ext c.sa c.sb F H F' H') (k : GOk c F' H' g') : SR c F' H' σ ρ g' where
  ext := s.ext.trans e
  gok := k
  g0 := s.g0
  len := s.len
  slots := fun i x h => by
    have q := s.slots i x h
    cases x with
    | un => trivial
    | d x =>
      obtain ⟨v, h1, h2⟩ := q
      exact ⟨v, h1, h2.mono e.f⟩
    | own xs =>
      obtain ⟨a, vs, h1, h2, h3, h4, h5⟩ := q
      obtain ⟨n1, n2⟩ := s.ownNe h5
      exact ⟨a, vs, h1, e.keep a _ h2 n1 n2, RqAll_mono e.f _ _ h3, by rw [e.ff a _ h2]; exact h4, h5⟩
    | ex fs =>
      obtain ⟨vs, h1, h2, h3⟩ := q
      refine ⟨vs, h1, e.keep _ _ h2 (fun z => ?_) (fun z => ?_), h3.mono e.f⟩
      · rw [z, s.gok.ha] at h2; cases h2
      · rw [z, s.gok.hb] at h2; cases h2
    | odc kvs =>
      obtain ⟨a, h1, h2, h3, h4⟩ := q
      obtain ⟨n1, n2⟩ := s.ownNe h4
      exact ⟨a, h1, e.keep a _ h2 n1 n2, by rw [e.ff a _ h2]; exact h3, h4⟩
  sep := s.sep
theorem Ext.new {sa sb : Addr} {F H : Hp} (h : Same F H) {p : Addr} {o : HO} (n : H p = none) : Ext sa sb F H (upd F p o) (upd H p o) where
  f := fun b x e => by rw [upd_ne (ne_of_none e (by cases q : F p with | none => rfl | some y => rw [h _ _ q] at n; cases n))]; exact e
  fh := fun b x e => by
    by_cases hb : b = p
    · subst hb
      rw [upd_same] at e ⊢
      exact e
    · rw [upd_ne hb] at e ⊢
      exact h _ _ e
  keep := fun b x e _ _ => by rw [upd_ne (ne_of_none e n)]; exact e
  dom := fun b x e => ⟨x, by rw [upd_ne (ne_of_none e n)]; exact e⟩
  ff := fun b x e => by rw [upd_ne (ne_of_none e n)]
theorem Ext.newM {sa sb : Addr} {F H : Hp} (h : Same F H) {p : Addr} {o : HO} (n : H p = none) : Ext sa sb F H F (upd H p o) where
  f := Same.refl F
  fh := fun b x e => by
    have q := h _ _ e
    rw [upd_ne (ne_of_none q n)]
    exact q
  keep := fun b x e _ _ => by rw [upd_ne (ne_of_none e n)]; exact e
  dom := fun b x e => ⟨x, by rw [upd_ne (ne_of_none e n)]; exact e⟩
  ff := fun b x e => rfl
theorem GOk.ext {c : Ctx} {F H F' H' : Hp} {g : G} (k : GOk c F H g) (h1 : F' c.sa = F c.sa) (h2 : F' c.sb = F c.sb) (h3 : H' c.sa = H c.sa) (h4 : H' c.sb = H c.sb) : GOk c F' H' g :=
  ⟨k.ne, by rw [h3]; exact k.ha, by rw [h4]; exact k.hb, by rw [h1]; exact k.fa, by rw [h2]; exact k.fb, k.wf⟩
theorem GOk.new {c : Ctx} {F H : Hp} {g : G} (k : GOk c F H g) {p : Addr} {o : HO} (n : H p = none) : GOk c (upd F p o) (upd H p o) g := by
  have n1 : c.sa ≠ p := ne_of_none k.ha n
  have n2 : c.sb ≠ p := ne_of_none k.hb n
  exact k.ext (upd_ne n1) (upd_ne n2) (upd_ne n1) (upd_ne n2)
theorem GOk.newM {c : Ctx} {F H : Hp} {g : G} (k : GOk c F H g) {p : Addr} {o : HO} (n : H p = none) : GOk c F (upd H p o) g := by
  have n1 : c.sa ≠ p := ne_of_none k.ha n
  have n2 : c.sb ≠ p := ne_of_none k.hb n
  exact k.ext rfl rfl (upd_ne n1) (upd_ne n2)
theorem SR.new {c : Ctx} {F H : Hp} {σ : L2.St} {ρ : RS} {g : G} (s : SR c F H σ ρ g) {p : Addr} {o : HO} (n : H p = none) : SR c (upd F p o) (upd H p o) σ ρ g :=
  s.ext' (Ext.new s.fh n) (s.gok.new n)
theorem SR.newM {c : Ctx} {F H : Hp} {σ : L2.St} {ρ : RS} {g : G} (s : SR c F H σ ρ g) {p : Addr} {o : HO} (n : H p = none) : SR c F (upd H p o) σ ρ g :=
  s.ext' (Ext.newM s.fh n) (s.gok.newM n)
theorem SR.same {c : Ctx} {F H : Hp} {σ : L2.St} {ρ : RS} {g : G} (s : SR c F H σ ρ g) {p : Addr} {o : HO} (n : H p = none) : Same F (upd F p o) := (Ext.new (sa := c.sa) (sb := c.sb) s.fh n).f
theorem SR.fnone {c : Ctx} {F H : Hp} {σ : L2.St} {ρ : RS} {g : G} (s : SR c F H σ ρ g) {p : Addr} (n : H p = none) : F p = none := by
  cases q : F p with
  | none => rfl
  | some y => rw [s.fh _ _ q] at n; cases n
def PostG {α β : Type} (c : Ctx) (σ : L2.St) (R : Hp → β → α → Prop) (o : Out α) (F H : Hp) (W : WX) (Q : β → Hp → Prop) : Prop :=
  match o with
  | .ok a g => ∀ b F' H', Ext c.sa c.sb F H F' H' → GOk c F' H' g → R F' b a → Q b H'
  | .exc n fs g => ∀ C dx vs F' H', Ext c.sa c.sb F H F' H' → GOk c F' H' g → c.cl n = some C → H' dx = some (.xd vs) → FldR c F' vs fs → W (.ref C) (some dx) σ H'
  | .bad => False
theorem PostG.up {α β : Type} {c : Ctx} {σ : L2.St} {R : Hp → β → α → Prop} {o : Out α} {F H F' H' : Hp} {W : WX} {Q : β → Hp → Prop} (h : PostG c σ R o F H W Q) (e : Ext c.sa c.sb F H F' H') : PostG c σ R o F' H' W Q := by
  cases o with
  | ok a g => exact fun b F1 H1 s => h b F1 H1 (e.trans s)
  | exc n fs g => exact fun C dx vs F1 H1 s => h C dx vs F1 H1 (e.trans s)
  | bad => exact h
theorem PostG.bind {α β α' β' : Type} {c : Ctx} {σ : L2.St} {ρ : RS} {g0 : G} {R : Hp → β → α → Prop} {R' : Hp → β' → α' → Prop} {o : Out α} {k : α → G → Out α'} {F H : Hp} {W : WX} {Q : β → Hp → Prop} {Q' : β' → Hp → Prop}
    (s0 : SR c F H σ ρ g0) (h : PostG c σ R' (o.bind k) F H W Q') (q : ∀ a g b F1 H1, Ext c.sa c.sb F H F1 H1 → SR c F1 H1 σ ρ g → R F1 b a → PostG c σ R' (k a g) F1 H1 W Q' → Q b H1) : PostG c σ R o F H W Q := by
  cases o with
  | ok a g => exact fun b F1 H1 e gk r => q a g b F1 H1 e (s0.ext' e gk) r (PostG.up (show PostG c σ R' (k a g) F H W Q' from h) e)
  | exc n fs g => exact h
  | bad => exact h
def RB : Hp → Bool → Bool → Prop := fun _ a b => a = b
def tE (c : Ctx) (W : WX) (f : EF) : TE := fun σ H Q => ∃ F ρ g, SR c F H σ ρ g ∧ PostG c σ (Rep c) (f ρ g) F H W Q
def tT (c : Ctx) (W : WX) (f : TF) : TT := fun σ H Q => ∃ F ρ g, SR c F H σ ρ g ∧ PostG c σ RB (f ρ g) F H W Q
def tAr (c : Ctx) (W : WX) (f : AF) : TA := fun σ H Q => ∃ F ρ g, SR c F H σ ρ g ∧ PostG c σ (RepAll c) (f ρ g) F H W Q
abbrev DE (X : Cx) (c : Ctx) (W : WX) (e : Expr) (f : EF) : Prop := PE X e (tE c W f)
abbrev DT (X : Cx) (c : Ctx) (W : WX) (e : Expr) (f : TF) : Prop := PT X e (tT c W f)
abbrev DA (X : Cx) (c : Ctx) (W : WX) (es : List Expr) (f : AF) : Prop := PA X es (tAr c W f)
theorem PE.imp {X : Cx} {e : Expr} {t t' : TE} (h : PE X e t) (q : ∀ σ H Q, t' σ H Q → t σ H Q) : PE X e t' := ⟨fun pins s σ H Q I w => h.run pins s σ H Q I (q σ H Q w)⟩
theorem PT.imp {X : Cx} {e : Expr} {t t' : TT} (h : PT X e t) (q : ∀ σ H Q, t' σ H Q → t σ H Q) : PT X e t' := ⟨fun pins s σ H Q I w => h.run pins s σ H Q I (q σ H Q w)⟩
theorem PW.imp {X : Cx} {e : Expr} {t t' : TT} (h : PW X e t) (q : ∀ σ H Q, t' σ H Q → t σ H Q) : PW X e t' := ⟨fun wh pins s σ H Q I w => h.run wh pins s σ H Q I (q σ H Q w)⟩
theorem PA.imp {X : Cx} {e : List Expr} {t t' : TA} (h : PA X e t) (q : ∀ σ H Q, t' σ H Q → t σ H Q) : PA X e t' := ⟨fun pos pins s σ H Q I w => h.run pos pins s σ H Q I (q σ H Q w)⟩
theorem PS.imp {X : Cx} {e : Stmt} {t t' : TS} (h : PS X e t) (q : ∀ E σ H, t' E σ H → t E σ H) : PS X e t' := ⟨fun pins s σ H E I w => h.run pins s σ H E I (q E σ H w)⟩
theorem PSs.imp {X : Cx} {e : List Stmt} {t t' : TS} (h : PSs X e t) (q : ∀ E σ H, t' E σ H → t E σ H) : PSs X e t' := ⟨fun pins s σ H E I w => h.run pins s σ H E I (q E σ H w)⟩
theorem PostG.now {α β : Type} {c : Ctx} {σ : L2.St} {ρ : RS} {R : Hp → β → α → Prop} {a : α} {b : β} {g : G} {F H : Hp} {W : WX} {Q : β → Hp → Prop} (h : PostG c σ R (.ok a g) F H W Q) (s : SR c F H σ ρ g) (r : R F b a) : Q b H := h b F H (Ext.refl s.fh) s.gok r
theorem tE_ok {c : Ctx} {W : WX} {f : EF} {σ : L2.St} {H F : Hp} {ρ : RS} {g : G} {Q : VK} (s : SR c F H σ ρ g) (h : PostG c σ (Rep c) (f ρ g) F H W Q) : tE c W f σ H Q := ⟨F, ρ, g, s, h⟩
end DL
namespace DL
open PySem
open PySem.Spec
open PyProof.Rows
open L2
abbrev LIM : Nat := 1000000
theorem lim_ok {n : Nat} (h : n ≤ LIM) : n ≤ sizeLine := by rw [sizeLine_eq]; exact Nat.le_trans h (by decide)
theorem lim_lt {n : Nat} (h : n < LIM) : n < sizeLine := by rw [sizeLine_eq]; exact Nat.lt_trans h (by decide)
section
variable {X : Cx} {c : Ctx} {W : WX} {pos : Pos}
def eV (i : Nat) : EF := fun ρ g => match ρ[i]? with
  | some (.d x) => .ok x g
  | _ => .bad
def eC (d : D) : EF := fun _ g => .ok d g
theorem d_var {i : Nat} {x : Str} (h : PE X (.Name x pos) (tVar i)) : DE X c W (.Name x pos) (eV i) := PE.imp h fun σ H Q ⟨F, ρ, g, s, h⟩ => by
  unfold eV at h
  cases e : ρ[i]? with
  | none => rw [e] at h; exact h.elim
  | some y =>
    rw [e] at h
    cases y with
    | un => exact h.elim
    | own _ => exact h.elim
    | ex _ => exact h.elim
    | odc _ => exact h.elim
    | d y =>
      obtain ⟨v, h1, h2⟩ := s.slots i _ e
      exact ⟨v, h1, h.now s h2⟩
theorem d_const {e : Expr} {v : V} {d : D} (h : PE X e (tC v)) (r : ∀ F, Rq c.K F v d) : DE X c W e (eC d) := PE.imp h fun σ H Q ⟨F, ρ, g, s, h⟩ => h.now s (.inl (r F))
theorem d_int {i : Int} {j pos} : DE X c W (.Constant (.int i) j pos) (eC (.int i)) := d_const pe_int fun _ => .int i
theorem d_bl {b : Bool} {j pos} : DE X c W (.Constant (.bool b) j pos) (eC (.bool b)) := d_const pe_bl fun _ => .bl b
theorem d_non {j pos} : DE X c W (.Constant .none j pos) (eC .none) := d_const pe_non fun _ => .non
theorem d_str {x : Str} {j pos} : DE X c W (.Constant (.str x) j pos) (eC (.str x)) := d_const pe_str fun _ => .str x
variable {a b : Expr} {fa fb : EF} {op : Operator}
def eBin (φ : D → D → G → Out D) (fa fb : EF) : EF := fun ρ g => (fa ρ g).bind fun x g1 => (fb ρ g1).bind fun y g2 => φ x y g2
def Keeps2 (c : Ctx) (W : WX) (r : R2) (φ : D → D → G → Out D) : Prop := ∀ (σ : L2.St) (ρ : RS) (g : G) (F H : Hp) (x y : V) (dx dy : D) (Q : VK), SR c F H σ ρ g → Rep c F x dx → Rep c F y dy → PostG c σ (Rep c) (φ dx dy g) F H W Q → r x y H Q
theorem d_bin {r : R2} {φ : D → D → G → Out D} (ho : OpR X (binaryOp op) r) (hr : Keeps2 c W r φ) (ha : DE X c W a fa) (hb : DE X c W b fb) : DE X c W (.BinOp a op b pos) (eBin φ fa fb) :=
  PE.imp (pe_op ho ha hb) fun σ H Q ⟨F, ρ, g, s, h⟩ => ⟨F, ρ, g, s, PostG.bind s h fun x g1 v F1 H1 e1 s1 r1 h1 => ⟨F1, ρ, g1, s1, PostG.bind s1 (o := fb ρ g1) (k := fun y g2 => φ x y g2) h1 fun y g2 u F2 H2 e2 s2 r2 h2 => hr σ ρ g2 F2 H2 v u x y Q s2 (r1.mono e2.f) r2 h2⟩⟩
def opAdd (x y : D) (g : G) : Out D := match x, y with
  | .int i, .int j => .ok (.int (i + j)) g
  | .str i, .str j => if i.length + j.length ≤ LIM then .ok (.str (i ++ j)) g else .bad
  | .list i, .list j => if i.length + j.length ≤ LIM then .ok (.list (i ++ j)) g else .bad
  | .tuple i, .tuple j => if i.length + j.length ≤ LIM then .ok (.tuple (i ++ j)) g else .bad
  | _, _ => .bad
def opSub (x y : D) (g : G) : Out D := match x, y with
  | .int i, .int j => .ok (.int (i - j)) g
  | _, _ => .bad
def MulOk (i j : Int) : Prop := (-(2 ^ 64) < i ∧ i < 2 ^ 64) ∨ (-(2 ^ 64) < j ∧ j < 2 ^ 64) ∨ i.natAbs.log2 + j.natAbs.log2 < 1000000
instance {i j : Int} : Decidable (MulOk i j) := by unfold MulOk; infer_instance
def opMul (x y : D) (g : G) : Out D := match x, y with
  | .int i, .int j => if MulOk i j then .ok (.int (i * j)) g else .bad
  | .list xs, .int k => if k ≤ LIM ∧ -(2 ^ 62) ≤ k ∧ xs.length * k.toNat ≤ LIM then .ok (.list (List.replicate k.toNat xs).flatten) g else .bad
  | _, _ => .bad
def DivOk (j : Int) : Prop := (j ≠ 0 ∧ j.natAbs < 1073741824) ∨ (0 < j ∧ j.natAbs.log2 < 9000)
instance {j : Int} : Decidable (DivOk j) := by unfold DivOk; infer_instance
def opDiv (x y : D) (g : G) : Out D := match x, y with
  | .int i, .int j => if DivOk j then .ok (.int (i.fdiv j)) g else .bad
  | _, _ => .bad
def opMod (x y : D) (g : G) : Out D := match x, y with
  | .int i, .int j => if j ≠ 0 then .ok (.int (i.fmod j)) g else .bad
  | _, _ => .bad
def opPow (x y : D) (g : G) : Out D := match x, y with
  | .int i, .int j => if 0 ≤ j ∧ j ≤ 1000000 ∧ i.natAbs < 2 ^ 64 then .ok (.int (i ^ j.toNat)) g else .bad
  | _, _ => .bad
theorem DpAll_ne {K : PySem.W.Frag} {F : Hp} {xs : List V} {ds : List D} (h : RqAll K F xs ds) : xs = [] ↔ ds = [] := by
  cases h with
  | nil => exact ⟨fun _ => rfl, fun _ => rfl⟩
  | cons _ _ => exact ⟨fun e => (by cases e), fun e => (by cases e)⟩
theorem RqAll.rep {K : PySem.W.Frag} {F : Hp} {xs : List V} {ds : List D} (h : RqAll K F xs ds) : ∀ k : Nat, RqAll K F (List.replicate k xs).flatten (List.replicate k ds).flatten
  | 0 => .nil
  | k + 1 => by
    rw [List.replicate_succ, List.replicate_succ, List.flatten_cons, List.flatten_cons]
    exact h.append (RqAll.rep h k)
theorem SR.newRq {c : Ctx} {F H : Hp} {σ : L2.St} {ρ : RS} {g : G} (s : SR c F H σ ρ g) {p : Addr} {o : HO} (n : H p = none) {vs : List V} {ds : List D} (h : RqAll c.K F vs ds) : RqAll c.K (upd F p o) vs ds := RqAll_mono (s.same n) ds vs h
theorem SR.newList {c : Ctx} {F H : Hp} {σ : L2.St} {ρ : RS} {g : G} (s : SR c F H σ ρ g) {p : Addr} (n : H p = none) {vs : List V} {ds : List D} (h : RqAll c.K F vs ds) : Rep c (upd F p (.lst vs)) (.ref p) (.list ds) := .inl (.lst upd_same (s.newRq n h))
theorem SR.newTup {c : Ctx} {F H : Hp} {σ : L2.St} {ρ : RS} {g : G} (s : SR c F H σ ρ g) {p : Addr} (n : H p = none) {vs : List V} {ds : List D} (h : RqAll c.K F vs ds) : Rep c (upd F p (.tup vs)) (.ref p) (.tuple ds) := .inl (.tup (SqT.of upd_same) (s.newRq n h))
theorem PostG.newList {c : Ctx} {F H : Hp} {σ : L2.St} {ρ : RS} {g : G} {W : WX} {Q : VK} {ds : List D} (h : PostG c σ (Rep c) (.ok (.list ds) g) F H W Q) (s : SR c F H σ ρ g) {p : Addr} (n : H p = none) {vs : List V} (r : RqAll c.K F vs ds) : Q (.ref p) (upd H p (.lst vs)) :=
  h _ _ _ (Ext.new s.fh n) (s.gok.new n) (s.newList n r)
theorem PostG.newTup {c : Ctx} {F H : Hp} {σ : L2.St} {ρ : RS} {g : G} {W : WX} {Q : VK} {ds : List D} (h : PostG c σ (Rep c) (.ok (.tuple ds) g) F H W Q) (s : SR c F H σ ρ g) {p : Addr} (n : H p = none) {vs : List V} (r : RqAll c.K F vs ds) : Q (.ref p) (upd H p (.tup vs)) :=
  h _ _ _ (Ext.new s.fh n) (s.gok.new n) (s.newTup n r)
theorem PostG.ite {α β : Type} {c : Ctx} {σ : L2.St} {R : Hp → β → α → Prop} {p : Prop} [Decidable p] {o : Out α} {F H : Hp} {W : WX} {Q : β → Hp → Prop} (h : PostG c σ R (if p then o else .bad) F H W Q) : p ∧ PostG c σ R o F H W Q := by
  by_cases hp : p
  · rw [if_pos hp] at h; exact ⟨hp, h⟩
  · rw [if_neg hp] at h; exact h.elim
def rAddA (K : PySem.W.Frag) : R2 := fun x y H Q => (∃ i j, x = .int i ∧ y = .int j ∧ Q (.int (i + j)) H) ∨ (∃ i j, x = .str i ∧ y = .str j ∧ i.length + j.length ≤ sizeLine ∧ Q (.str (i ++ j)) H) ∨ rCat x y H Q ∨ rCatA K x y H Q
theorem op_addA : OpR X (binaryOp .Add) (rAddA X.K) := op_add.or (op_add_str.or (op_cat.or op_catA))
theorem k_add : Keeps2 c W (rAddA c.K) opAdd := by
  intro σ ρ g F H x y dx dy Q s rx ry h
  unfold opAdd at h
  split at h
  · cases rx.int; cases ry.int
    exact .inl ⟨_, _, rfl, rfl, h.now s rInt⟩
  · cases rx.str; cases ry.str
    obtain ⟨h1, h⟩ := h.ite
    exact .inr (.inl ⟨_, _, rfl, rfl, lim_ok h1, h.now s rStr⟩)
  · obtain ⟨a, vs, rfl, h1, h2⟩ := rx.list
    obtain ⟨b, ws, rfl, h3, h4⟩ := ry.list
    obtain ⟨hl, h⟩ := h.ite
    exact .inr (.inr (.inl ⟨a, b, vs, ws, rfl, rfl, s.fh _ _ h1, s.fh _ _ h3, lim_ok (by rw [h2.len, h4.len]; exact hl), fun p n => h.newList s n (h2.append h4)⟩))
  · obtain ⟨a, vs, rfl, h1, h2⟩ := rx.tuple
    obtain ⟨b, ws, rfl, h3, h4⟩ := ry.tuple
    obtain ⟨hl, h⟩ := h.ite
    refine .inr (.inr (.inr ⟨a, b, vs, ws, rfl, rfl, seqT_mono s.fh h1, seqT_mono s.fh h3, lim_ok (by rw [h2.len, h4.len]; exact hl), fun e => ?_, fun _ e => ?_, fun _ _ p n => h.newTup s n (h2.append h4)⟩))
    · rw [(DpAll_ne h2).mp e] at h
      exact h.now s ry
    · rw [(DpAll_ne h4).mp e, List.append_nil] at h
      exact h.now s rx
  · exact h.elim
theorem k_sub : Keeps2 c W (rI0 fun i j => .int (i - j)) opSub := by
  intro σ ρ g F H x y dx dy Q s rx ry h
  unfold opSub at h
  split at h
  · cases rx.int; cases ry.int
    exact ⟨_, _, rfl, rfl, h.now s rInt⟩
  · exact h.elim
def rMulA : R2 := fun x y H Q => rI CMul (fun i j => .int (i * j)) x y H Q ∨ rI CMulW (fun i j => .int (i * j)) x y H Q ∨ rRep x y H Q
theorem op_mulA : OpR X (binaryOp .Mult) rMulA := op_mul.or (op_mulW.or op_rep)
theorem k_mul : Keeps2 c W rMulA opMul := by
  intro σ ρ g F H x y dx dy Q s rx ry h
  unfold opMul at h
  split at h
  · cases rx.int; cases ry.int
    obtain ⟨h1, h⟩ := h.ite
    rcases h1 with h1 | h1 | h1
    · exact .inl ⟨_, _, rfl, rfl, .inl h1, h.now s rInt⟩
    · exact .inl ⟨_, _, rfl, rfl, .inr h1, h.now s rInt⟩
    · exact .inr (.inl ⟨_, _, rfl, rfl, h1, h.now s rInt⟩)
  · obtain ⟨a, vs, rfl, h1, h2⟩ := rx.list
    cases ry.int
    obtain ⟨⟨hl1, hl2, hl3⟩, h⟩ := h.ite
    have hl1' : _ ≤ (1000000 : Int) := hl1
    exact .inr (.inr ⟨a, _, vs, rfl, rfl, s.fh _ _ h1, by omega, by omega, lim_ok (by rw [h2.len]; exact hl3), fun p n => h.newList s n (h2.rep _)⟩)
  · exact h.elim
def rDivA : R2 := fun x y H Q => rI CDivN (fun i j => .int (i.fdiv j)) x y H Q ∨ rI CDivW (fun i j => .int (i / j)) x y H Q
theorem op_divA : OpR X (binaryOp .FloorDiv) rDivA := op_fdivN.or op_fdivW
theorem k_div : Keeps2 c W rDivA opDiv := by
  intro σ ρ g F H x y dx dy Q s rx ry h
  unfold opDiv at h
  split at h
  · cases rx.int; cases ry.int
    obtain ⟨h1, h⟩ := h.ite
    rcases h1 with h1 | h1
    · exact .inl ⟨_, _, rfl, rfl, h1, h.now s rInt⟩
    · refine .inr ⟨_, _, rfl, rfl, h1, ?_⟩
      rw [Int.fdiv_eq_ediv_of_nonneg _ (Int.le_of_lt h1.1)] at h
      exact h.now s rInt
  · exact h.elim
theorem k_mod : Keeps2 c W (rI (fun _ j => j ≠ 0) fun i j => .int (i.fmod j)) opMod := by
  intro σ ρ g F H x y dx dy Q s rx ry h
  unfold opMod at h
  split at h
  · cases rx.int; cases ry.int
    obtain ⟨h1, h⟩ := h.ite
    exact ⟨_, _, rfl, rfl, h1, h.now s rInt⟩
  · exact h.elim
theorem k_pow : Keeps2 c W (rI CPow fun i j => .int (i ^ j.toNat)) opPow := by
  intro σ ρ g F H x y dx dy Q s rx ry h
  unfold opPow at h
  split at h
  · cases rx.int; cases ry.int
    obtain ⟨h1, h⟩ := h.ite
    exact ⟨_, _, rfl, rfl, h1, h.now s rInt⟩
  · exact h.elim
theorem d_add (hK : c.K = X.K) (ha : DE X c W a fa) (hb : DE X c W b fb) : DE X c W (.BinOp a .Add b pos) (eBin opAdd fa fb) := d_bin op_addA (by rw [← hK]; exact k_add) ha hb
theorem d_sub (ha : DE X c W a fa) (hb : DE X c W b fb) : DE X c W (.BinOp a .Sub b pos) (eBin opSub fa fb) := d_bin op_sub k_sub ha hb
theorem d_mul (ha : DE X c W a fa) (hb : DE X c W b fb) : DE X c W (.BinOp a .Mult b pos) (eBin opMul fa fb) := d_bin op_mulA k_mul ha hb
theorem d_div (ha : DE X c W a fa) (hb : DE X c W b fb) : DE X c W (.BinOp a .FloorDiv b pos) (eBin opDiv fa fb) := d_bin op_divA k_div ha hb
theorem d_mod (ha : DE X c W a fa) (hb : DE X c W b fb) : DE X c W (.BinOp a .Mod b pos) (eBin opMod fa fb) := d_bin op_modN k_mod ha hb
theorem d_pow (ha : DE X c W a fa) (hb : DE X c W b fb) : DE X c W (.BinOp a .Pow b pos) (eBin opPow fa fb) := d_bin op_pow k_pow ha hb
def eNeg (fa : EF) : EF := fun ρ g => (fa ρ g).bind fun x g1 => match x with
  | .int i => .ok (.int (-i)) g1
  | _ => .bad
theorem d_neg (ha : DE X c W a fa) : DE X c W (.UnaryOp .USub a pos) (eNeg fa) :=
  PE.imp (pe_un un_neg ha) fun σ H Q ⟨F, ρ, g, s, h⟩ => ⟨F, ρ, g, s, PostG.bind s h fun x g1 v F1 H1 e1 s1 r1 h1 => by
    cases x with
    | int i => cases r1.int; exact ⟨i, rfl, h1.now s1 rInt⟩
    | _ => exact h1.elim⟩
def tVal (fa : EF) : TF := fun ρ g => (fa ρ g).bind fun x g1 => match x with
  | .bool k => .ok k g1
  | _ => .bad
abbrev DC (X : Cx) (c : Ctx) (W : WX) (e : Expr) (f : EF) : Prop := DE X c W e f ∧ DT X c W e (tVal f)
theorem dcE {e : Expr} {f : EF} (h : DC X c W e f) : DE X c W e f := h.1
theorem dcT {e : Expr} {f : EF} (h : DC X c W e f) : DT X c W e (tVal f) := h.2
theorem val_imp {f : EF} {σ : L2.St} {H : Hp} {Q : Bool → Hp → Prop} (w : tT c W (tVal f) σ H Q) : tE c W f σ H fun x H' => ∃ k, x = .bl k ∧ Q k H' := by
  obtain ⟨F, ρ, g, s, h⟩ := w
  exact ⟨F, ρ, g, s, PostG.bind s h fun x g1 v F1 H1 e1 s1 r1 h1 => by
    cases x with
    | bool k => cases r1.bl; exact ⟨k, rfl, h1.now s1 rfl⟩
    | _ => exact h1.elim⟩
variable {cop : CmpOp}
theorem bin_imp {r : R2} {φ : D → D → G → Out D} (hr : Keeps2 c W r φ) {σ : L2.St} {H : Hp} {Q : VK} (w : tE c W (eBin φ fa fb) σ H Q) : tOp r (tE c W fa) (tE c W fb) σ H Q := by
  obtain ⟨F, ρ, g, s, h⟩ := w
  exact ⟨F, ρ, g, s, PostG.bind s h fun x g1 v F1 H1 e1 s1 r1 h1 => ⟨F1, ρ, g1, s1, PostG.bind s1 (o := fb ρ g1) (k := fun y g2 => φ x y g2) h1 fun y g2 u F2 H2 e2 s2 r2 h2 => hr σ ρ g2 F2 H2 v u x y Q s2 (r1.mono e2.f) r2 h2⟩⟩
theorem d_cmp {r : R2} {φ : D → D → G → Out D} (ho : OpR X (compareOp cop) r) (hr : Keeps2 c W r φ) (ha : DE X c W a fa) (hb : DE X c W b fb) (hm : behindInMarks cop b = false) : DC X c W (.Compare a [cop] [b] pos) (eBin φ fa fb) :=
  ⟨PE.imp (pe_cmpR ho ha hb hm) fun σ H Q w => bin_imp hr w, PT.imp (pt_cmpR ho ha hb hm) fun σ H Q w => bin_imp hr (val_imp w)⟩
def opI (p : Int → Int → Bool) (x y : D) (g : G) : Out D := match x, y with
  | .int i, .int j => .ok (.bool (p i j)) g
  | _, _ => .bad
theorem k_opI (p : Int → Int → Bool) : Keeps2 c W (rI0 fun i j => .bl (p i j)) (opI p) := by
  intro σ ρ g F H x y dx dy Q s rx ry h
  unfold opI at h
  split at h
  · cases rx.int; cases ry.int
    exact ⟨_, _, rfl, rfl, h.now s rBl⟩
  · exact h.elim
abbrev opLt := opI fun i j => decide (i < j)
abbrev opLe := opI fun i j => decide (i ≤ j)
abbrev opGt := opI fun i j => decide (j < i)
abbrev opGe := opI fun i j => decide (j ≤ i)
theorem d_lt (ha : DE X c W a fa) (hb : DE X c W b fb) : DC X c W (.Compare a [.Lt] [b] pos) (eBin opLt fa fb) := d_cmp op_lt (k_opI _) ha hb (nomark _)
theorem d_le (ha : DE X c W a fa) (hb : DE X c W b fb) : DC X c W (.Compare a [.LtE] [b] pos) (eBin opLe fa fb) := d_cmp op_le (k_opI _) ha hb (nomark _)
theorem d_gt (ha : DE X c W a fa) (hb : DE X c W b fb) : DC X c W (.Compare a [.Gt] [b] pos) (eBin opGt fa fb) := d_cmp op_gt (k_opI _) ha hb (nomark _)
theorem d_ge (ha : DE X c W a fa) (hb : DE X c W b fb) : DC X c W (.Compare a [.GtE] [b] pos) (eBin opGe fa fb) := d_cmp op_ge (k_opI _) ha hb (nomark _)
def shp (d : D) : Bool := SeqAt.shaped d
def opEq (x y : D) (g : G) : Out D := if shp x = true ∧ shp y = true then .ok (.bool (PyData.eqv x y)) g else .bad
def opNe (x y : D) (g : G) : Out D := if shp x = true ∧ shp y = true then .ok (.bool (!PyData.eqv x y)) g else .bad
theorem shp_tok {d : D} (h : shp d = true) : isDic d = false := by
  cases d with
  | dict ps => cases h
  | _ => rfl
theorem k_eq : Keeps2 c W (rEqD c.K) opEq := by
  intro σ ρ g F H x y dx dy Q s rx ry h
  obtain ⟨⟨h1, h2⟩, h⟩ := h.ite
  exact ⟨dx, dy, Rq_dp _ _ (Rq_mono s.fh _ _ (rx.rq (shp_tok h1))), Rq_dp _ _ (Rq_mono s.fh _ _ (ry.rq (shp_tok h2))), h1, h2, h.now s rBl⟩
theorem k_ne : Keeps2 c W (rNeD c.K) opNe := by
  intro σ ρ g F H x y dx dy Q s rx ry h
  obtain ⟨⟨h1, h2⟩, h⟩ := h.ite
  exact ⟨dx, dy, Rq_dp _ _ (Rq_mono s.fh _ _ (rx.rq (shp_tok h1))), Rq_dp _ _ (Rq_mono s.fh _ _ (ry.rq (shp_tok h2))), h1, h2, h.now s rBl⟩
theorem hu65 {A : Around} {k : Nat} (hr : Room k A) : A.units + 65 < cLine := by have := hr.un; omega
theorem d_eq (hK : c.K = X.K) (hu : X.A.units + 65 < cLine) (ha : DE X c W a fa) (hb : DE X c W b fb) : DC X c W (.Compare a [.Eq] [b] pos) (eBin opEq fa fb) := d_cmp (op_eqD (by omega)) (by rw [← hK]; exact k_eq) ha hb (nomark _)
theorem d_ne (hK : c.K = X.K) (hu : X.A.units + 65 < cLine) (ha : DE X c W a fa) (hb : DE X c W b fb) : DC X c W (.Compare a [.NotEq] [b] pos) (eBin opNe fa fb) := d_cmp (op_neD (by omega)) (by rw [← hK]; exact k_ne) ha hb (nomark _)
def isNon : D → Bool
  | .none => true
  | _ => false
def isD (x : D) : Bool := match x with
  | .none => true
  | .bool _ | .int _ | .str _ | .list _ | .tuple _ => true
  | .dict _ => false
theorem rep_non {c : Ctx} {F : Hp} {v : V} {d : D} (r : Rep c F v d) : decide (v = .non) = isNon d := by
  rcases r with r | ⟨⟨rfl, rfl⟩ | r, _⟩
  · cases r <;> rfl
  · rfl
  · cases r <;> rfl
def eIsN (fa : EF) : EF := fun ρ g => (fa ρ g).bind fun x g1 => .ok (.bool (isNon x)) g1
def eNotN (fa : EF) : EF := fun ρ g => (fa ρ g).bind fun x g1 => .ok (.bool (!isNon x)) g1
theorem d_isN {j pos'} (ha : DE X c W a fa) : DC X c W (.Compare a [.Is] [.Constant .none j pos'] pos) (eIsN fa) :=
  have im : ∀ {σ : L2.St} {H : Hp} {Q : VK}, tE c W (eIsN fa) σ H Q → tIsN (tE c W fa) σ H Q := fun {σ H Q} ⟨F, ρ, g, s, h⟩ => ⟨F, ρ, g, s, PostG.bind s h fun x g1 v F1 H1 e1 s1 r1 h1 => by rw [rep_non r1]; exact h1.now s1 rBl⟩
  ⟨PE.imp (pe_cmp (pc_isN ha) rfl) fun σ H Q w => im w, PT.imp (pt_cmp (pc_isN ha) rfl) fun σ H Q w => im (val_imp w)⟩
theorem d_notN {j pos'} (ha : DE X c W a fa) : DC X c W (.Compare a [.IsNot] [.Constant .none j pos'] pos) (eNotN fa) :=
  have im : ∀ {σ : L2.St} {H : Hp} {Q : VK}, tE c W (eNotN fa) σ H Q → tNotN (tE c W fa) σ H Q := fun {σ H Q} ⟨F, ρ, g, s, h⟩ => ⟨F, ρ, g, s, PostG.bind s h fun x g1 v F1 H1 e1 s1 r1 h1 => by rw [rep_non r1]; exact h1.now s1 rBl⟩
  ⟨PE.imp (pe_cmp (pc_notN ha) rfl) fun σ H Q w => im w, PT.imp (pt_cmp (pc_notN ha) rfl) fun σ H Q w => im (val_imp w)⟩
def opIsB (x y : D) (g : G) : Out D := match x, y with
  | .bool i, .bool j => .ok (.bool (decide (i = j))) g
  | _, _ => .bad
def opNotB (x y : D) (g : G) : Out D := match x, y with
  | .bool i, .bool j => .ok (.bool (!decide (i = j))) g
  | _, _ => .bad
theorem d_isB (ha : DE X c W a fa) (hb : DE X c W b fb) : DC X c W (.Compare a [.Is] [b] pos) (eBin opIsB fa fb) := d_cmp op_isBl (fun σ ρ g F H x y dx dy Q s rx ry h => by
  unfold opIsB at h
  split at h
  · cases rx.bl; cases ry.bl
    exact ⟨_, _, rfl, rfl, h.now s rBl⟩
  · exact h.elim) ha hb (nomark _)
theorem d_notB (ha : DE X c W a fa) (hb : DE X c W b fb) : DC X c W (.Compare a [.IsNot] [b] pos) (eBin opNotB fa fb) := d_cmp op_notBl (fun σ ρ g F H x y dx dy Q s rx ry h => by
  unfold opNotB at h
  split at h
  · cases rx.bl; cases ry.bl
    exact ⟨_, _, rfl, rfl, h.now s rBl⟩
  · exact h.elim) ha hb (nomark _)
def eChain (p q : Int → Int → Bool) (fa fb fc : EF) : EF := fun ρ g => (fa ρ g).bind fun x g1 => (fb ρ g1).bind fun y g2 => match x, y with
  | .int i, .int j => if p i j = true then (fc ρ g2).bind fun z g3 => match z with
      | .int k => .ok (.bool (q j k)) g3
      | _ => .bad
    else .ok (.bool false) g2
  | _, _ => .bad
theorem chain_imp {fc : EF} {p q : Int → Int → Bool} {σ : L2.St} {H : Hp} {Q : VK} (w : tE c W (eChain p q fa fb fc) σ H Q) : tChain (rI0 fun i j => .bl (p i j)) (rI0 fun i j => .bl (q i j)) (tE c W fa) (tE c W fb) (tE c W fc) σ H Q := by
  obtain ⟨F, ρ, g, s, h⟩ := w
  exact ⟨F, ρ, g, s, PostG.bind s h fun x g1 v F1 H1 e1 s1 r1 h1 => ⟨F1, ρ, g1, s1, PostG.bind s1 h1 fun y g2 u F2 H2 e2 s2 r2 h2 => by
    split at h2
    · cases (r1.mono e2.f).int; cases r2.int
      refine ⟨_, _, rfl, rfl, _, rfl, ?_⟩
      split
      · rename_i i j hp
        rw [if_pos hp] at h2
        refine ⟨F2, ρ, g2, s2, PostG.bind s2 h2 fun z g3 w F3 H3 e3 s3 r3 h3 => ?_⟩
        cases z with
        | int k => cases r3.int; exact ⟨_, _, rfl, rfl, h3.now s3 rBl⟩
        | _ => exact h3.elim
      · rename_i i j hp
        rw [if_neg hp] at h2
        exact h2.now s2 rBl
    · exact h2.elim⟩⟩
theorem d_chain {cop' : CmpOp} {e3 : Expr} {fc : EF} {p q : Int → Int → Bool} (ho : OpR X (compareOp cop) (rI0 fun i j => .bl (p i j))) (ho' : OpR X (compareOp cop') (rI0 fun i j => .bl (q i j))) (ha : DE X c W a fa) (hb : DE X c W b fb) (hc : DE X c W e3 fc)
    (h1 : lastMarks [cop, cop'] [b, e3] = false := by rfl) : DC X c W (.Compare a [cop, cop'] [b, e3] pos) (eChain p q fa fb fc) :=
  ⟨PE.imp (pe_chain ho ho' ha hb hc h1) fun σ H Q w => chain_imp w, PT.imp (pt_chain ho ho' ha hb hc h1) fun σ H Q w => chain_imp (val_imp w)⟩
variable {rest : List Expr} {tA tB : TF}
abbrev DW (X : Cx) (c : Ctx) (W : WX) (e : Expr) (f : TF) : Prop := PW X e (tT c W f)
def tAndF (fa fb : TF) : TF := fun ρ g => (fa ρ g).bind fun k g1 => if k = true then fb ρ g1 else .ok false g1
def tOrF (fa fb : TF) : TF := fun ρ g => (fa ρ g).bind fun k g1 => if k = true then .ok true g1 else fb ρ g1
def tNotF (fa : TF) : TF := fun ρ g => (fa ρ g).bind fun k g1 => .ok (!k) g1
def truD : D → Option Bool
  | .none => some false
  | .bool k => some k
  | .int i => some (i != 0)
  | .list xs => some (!xs.isEmpty)
  | .tuple xs => some (!xs.isEmpty)
  | .str x => if x.length ≤ LIM then some ((x.length : Int) != 0) else none
  | .dict _ => none
def tTru (fa : EF) : TF := fun ρ g => (fa ρ g).bind fun x g1 => match truD x with
  | some k => .ok k g1
  | none => .bad
theorem dt_val (ha : DE X c W a fa) (he : ∀ whole, isTrue a X.env whole = (do let v ← whole; standAt a.pos; holding [v] (truthy v)) := by intro _; rfl) : DT X c W a (tVal fa) :=
  PT.imp (pt_val ha he) fun σ H Q ⟨F, ρ, g, s, h⟩ => ⟨F, ρ, g, s, PostG.bind s h fun x g1 v F1 H1 e1 s1 r1 h1 => by
    cases x with
    | bool k => cases r1.bl; exact ⟨k, rfl, h1.now s1 rfl⟩
    | _ => exact h1.elim⟩
theorem isEmpty_rq {K : PySem.W.Frag} {F : Hp} {vs : List V} {ds : List D} (h : RqAll K F vs ds) : (!vs.isEmpty) = !ds.isEmpty := by cases h <;> rfl
theorem dt_tru (hK : c.K = X.K) (ha : DE X c W a fa) (he : ∀ whole, isTrue a X.env whole = (do let v ← whole; standAt a.pos; holding [v] (truthy v)) := by intro _; rfl) : DT X c W a (tTru fa) :=
  PT.imp (pt_truth ha he) fun σ H Q ⟨F, ρ, g, s, h⟩ => ⟨F, ρ, g, s, PostG.bind s h fun x g1 v F1 H1 e1 s1 r1 h1 => by
    cases x with
    | none => cases r1.non; exact ⟨_, rfl, h1.now s1 rfl⟩
    | bool k => cases r1.bl; exact ⟨_, rfl, h1.now s1 rfl⟩
    | int i => cases r1.int; exact ⟨_, rfl, h1.now s1 rfl⟩
    | list xs =>
      obtain ⟨p, vs, rfl, q1, q2⟩ := r1.list
      exact ⟨_, .inl ⟨vs, SqL.of (s1.fh _ _ q1), rfl⟩, h1.now s1 (isEmpty_rq q2)⟩
    | tuple xs =>
      obtain ⟨p, vs, rfl, q1, q2⟩ := r1.tuple
      exact ⟨_, .inr (.inl ⟨vs, by rw [← hK]; exact seqT_mono s1.fh q1, rfl⟩), h1.now s1 (isEmpty_rq q2)⟩
    | str x =>
      cases r1.str
      by_cases hl : x.length ≤ LIM
      · simp only [truD, if_pos hl] at h1
        exact ⟨_, ⟨lim_ok hl, rfl⟩, h1.now s1 rfl⟩
      · simp only [truD, if_neg hl] at h1
        exact h1.elim
    | dict _ => exact h1.elim⟩
theorem dw_and1 (ha : DT X c W a tA) : DW X c W (.BoolOp .And [a] pos) tA := pw_and1 ha
theorem dw_or1 (ha : DT X c W a tA) : DW X c W (.BoolOp .Or [a] pos) tA := pw_or1 ha
theorem dw_and (ha : DT X c W a tA) (hb : DW X c W (.BoolOp .And (b :: rest) pos) tB) : DW X c W (.BoolOp .And (a :: b :: rest) pos) (tAndF tA tB) :=
  PW.imp (pw_and ha hb) fun σ H Q ⟨F, ρ, g, s, h⟩ => ⟨F, ρ, g, s, PostG.bind s h fun k g1 v F1 H1 e1 s1 r1 h1 => by
    cases r1
    cases k with
    | true => exact ⟨F1, ρ, g1, s1, h1⟩
    | false => exact h1.now s1 rfl⟩
theorem dw_or (ha : DT X c W a tA) (hb : DW X c W (.BoolOp .Or (b :: rest) pos) tB) : DW X c W (.BoolOp .Or (a :: b :: rest) pos) (tOrF tA tB) :=
  PW.imp (pw_or ha hb) fun σ H Q ⟨F, ρ, g, s, h⟩ => ⟨F, ρ, g, s, PostG.bind s h fun k g1 v F1 H1 e1 s1 r1 h1 => by
    cases r1
    cases k with
    | true => exact h1.now s1 rfl
    | false => exact ⟨F1, ρ, g1, s1, h1⟩⟩
theorem dt_w (h : DW X c W a tA) : DT X c W a tA := PW.pt h
theorem dt_not (ha : DT X c W a tA) : DT X c W (.UnaryOp .Not a pos) (tNotF tA) :=
  PT.imp (pt_not ha) fun σ H Q ⟨F, ρ, g, s, h⟩ => ⟨F, ρ, g, s, PostG.bind s h fun k g1 v F1 H1 e1 s1 r1 h1 => by cases r1; exact h1.now s1 rfl⟩
def eAnd (fa fb : EF) : EF := fun ρ g => (fa ρ g).bind fun x g1 => match x with
  | .bool k => if k = true then fb ρ g1 else .ok (.bool false) g1
  | _ => .bad
def eOr (fa fb : EF) : EF := fun ρ g => (fa ρ g).bind fun x g1 => match x with
  | .bool k => if k = true then .ok (.bool true) g1 else fb ρ g1
  | _ => .bad
def eNot (fa : EF) : EF := fun ρ g => (fa ρ g).bind fun x g1 => match x with
  | .bool k => .ok (.bool (!k)) g1
  | _ => .bad
theorem d_one {bop} (ha : DE X c W a fa) : DE X c W (.BoolOp bop [a] pos) fa := pe_one ha
theorem d_and (ha : DE X c W a fa) (hb : DE X c W (.BoolOp .And (b :: rest) pos) fb) : DE X c W (.BoolOp .And (a :: b :: rest) pos) (eAnd fa fb) :=
  PE.imp (pe_and ha hb) fun σ H Q ⟨F, ρ, g, s, h⟩ => ⟨F, ρ, g, s, PostG.bind s h fun x g1 v F1 H1 e1 s1 r1 h1 => by
    cases x with
    | bool k =>
      cases r1.bl
      refine ⟨k, rfl, ?_⟩
      cases k with
      | true => exact ⟨F1, ρ, g1, s1, h1⟩
      | false => exact h1.now s1 rBl
    | _ => exact h1.elim⟩
theorem d_or (ha : DE X c W a fa) (hb : DE X c W (.BoolOp .Or (b :: rest) pos) fb) : DE X c W (.BoolOp .Or (a :: b :: rest) pos) (eOr fa fb) :=
  PE.imp (pe_or ha hb) fun σ H Q ⟨F, ρ, g, s, h⟩ => ⟨F, ρ, g, s, PostG.bind s h fun x g1 v F1 H1 e1 s1 r1 h1 => by
    cases x with
    | bool k =>
      cases r1.bl
      refine ⟨k, rfl, ?_⟩
      cases k with
      | true => exact h1.now s1 rBl
      | false => exact ⟨F1, ρ, g1, s1, h1⟩
    | _ => exact h1.elim⟩
theorem d_not (ha : DE X c W a fa) : DE X c W (.UnaryOp .Not a pos) (eNot fa) :=
  PE.imp (pe_not ha) fun σ H Q ⟨F, ρ, g, s, h⟩ => ⟨F, ρ, g, s, PostG.bind s h fun x g1 v F1 H1 e1 s1 r1 h1 => by
    cases x with
    | bool k => cases r1.bl; exact ⟨k, rfl, h1.now s1 rBl⟩
    | _ => exact h1.elim⟩
def eIf (t : TF) (fa fb : EF) : EF := fun ρ g => (t ρ g).bind fun k g1 => if k = true then fa ρ g1 else fb ρ g1
theorem d_if {e : Expr} (ht : DT X c W e tA) (ha : DE X c W a fa) (hb : DE X c W b fb) : DE X c W (.IfExp e a b pos) (eIf tA fa fb) :=
  PE.imp (pe_ifExp ht ha hb) fun σ H Q ⟨F, ρ, g, s, h⟩ => ⟨F, ρ, g, s, PostG.bind s h fun k g1 v F1 H1 e1 s1 r1 h1 => by
    cases r1
    cases k with
    | true => exact ⟨F1, ρ, g1, s1, h1⟩
    | false => exact ⟨F1, ρ, g1, s1, h1⟩⟩
variable {es : List Expr} {fs : AF} {e : Expr} {fe : EF}
def aNil : AF := fun _ g => .ok [] g
def aCons (fe : EF) (fs : AF) : AF := fun ρ g => (fe ρ g).bind fun x g1 => (fs ρ g1).bind fun xs g2 => .ok (x :: xs) g2
theorem da_nil : DA X c W [] aNil := PA.imp pa_nil fun σ H Q ⟨F, ρ, g, s, h⟩ => h.now s .nil
theorem da_cons (ha : DE X c W e fe) (hr : DA X c W es fs) (hs : starEach (e :: es) X.env = (false, eval e X.env) :: starEach es X.env := by rfl) : DA X c W (e :: es) (aCons fe fs) :=
  PA.imp (pa_cons ha hr hs) fun σ H Q ⟨F, ρ, g, s, h⟩ => ⟨F, ρ, g, s, PostG.bind s h fun x g1 v F1 H1 e1 s1 r1 h1 => ⟨F1, ρ, g1, s1, PostG.bind s1 h1 fun y g2 u F2 H2 e2 s2 r2 h2 => h2.now s2 (.cons (r1.mono e2.f) r2)⟩⟩
def noTok : List D → Bool
  | [] => true
  | .dict _ :: _ => false
  | _ :: r => noTok r
theorem RepAll.rq {c : Ctx} {F : Hp} : ∀ {vs : List V} {ds : List D}, RepAll c F vs ds → noTok ds = true → RqAll c.K F vs ds
  | _, _, .nil, _ => .nil
  | _, _, .cons (d := d) h t, n => by
    cases d with
    | dict k => cases n
    | none => exact .cons (h.rq rfl) (RepAll.rq t n)
    | bool _ => exact .cons (h.rq rfl) (RepAll.rq t n)
    | int _ => exact .cons (h.rq rfl) (RepAll.rq t n)
    | str _ => exact .cons (h.rq rfl) (RepAll.rq t n)
    | list _ => exact .cons (h.rq rfl) (RepAll.rq t n)
    | tuple _ => exact .cons (h.rq rfl) (RepAll.rq t n)
def eTup (fs : AF) : EF := fun ρ g => (fs ρ g).bind fun xs g1 => if noTok xs = true ∧ xs.length ≤ LIM then .ok (.tuple xs) g1 else .bad
def eLst (fs : AF) : EF := fun ρ g => (fs ρ g).bind fun xs g1 => if noTok xs = true ∧ xs.length ≤ LIM then .ok (.list xs) g1 else .bad
theorem d_tup {x1} (ha : DA X c W es fs) : DE X c W (.Tuple es x1 pos) (eTup fs) :=
  PE.imp (pe_tup ha) fun σ H Q ⟨F, ρ, g, s, h⟩ => ⟨F, ρ, g, s, PostG.bind s h fun xs g1 vs F1 H1 e1 s1 r1 h1 => by
    obtain ⟨⟨h2, h3⟩, h1⟩ := h1.ite
    exact ⟨lim_ok (by rw [r1.length]; exact h3), fun p n => h1.newTup s1 n (r1.rq h2)⟩⟩
theorem d_lst (ha : DA X c W es fs) : DE X c W (.List es pos) (eLst fs) :=
  PE.imp (pe_lst ha) fun σ H Q ⟨F, ρ, g, s, h⟩ => ⟨F, ρ, g, s, PostG.bind s h fun xs g1 vs F1 H1 e1 s1 r1 h1 => by
    obtain ⟨⟨h2, h3⟩, h1⟩ := h1.ite
    exact ⟨lim_ok (by rw [r1.length]; exact h3), fun p n => h1.newList s1 n (r1.rq h2)⟩⟩
def opIx (x y : D) (g : G) : Out D := match x, y with
  | .list xs, .int i => match atI xs i with
    | some d => .ok d g
    | none => .bad
  | .tuple xs, .int i => match atI xs i with
    | some d => .ok d g
    | none => .bad
  | .str z, .int i => if z.length ≤ LIM then (match atI z.cps.toList i with
    | some d => .ok (.str ⟨#[d]⟩) g
    | none => .bad) else .bad
  | _, _ => .bad
theorem atI_rq {K : PySem.W.Frag} {F : Hp} {vs : List V} {ds : List D} {i : Int} {d : D} (h : RqAll K F vs ds) (e : atI ds i = some d) : ∃ v, atI vs i = some v ∧ Rq K F v d := by
  unfold atI at e ⊢
  rw [h.len]
  cases q : ixN ds.length i with
  | none => rw [q] at e; cases e
  | some j =>
    rw [q] at e
    obtain ⟨v, h1, h2⟩ := h.get (i := j) (d := d) e
    exact ⟨v, h1, h2⟩
theorem d_ix (hK : c.K = X.K) (ha : DE X c W a fa) (hb : DE X c W b fb) (hs : PlainIx b := by intro _ _; rfl) : DE X c W (.Subscript a b pos) (eBin opIx fa fb) :=
  PE.imp (pe_ix ix_seq ha hb hs) fun σ H Q ⟨F, ρ, g, s, h⟩ => ⟨F, ρ, g, s, PostG.bind s h fun x g1 v F1 H1 e1 s1 r1 h1 => ⟨F1, ρ, g1, s1, PostG.bind s1 (o := fb ρ g1) (k := fun y g2 => opIx x y g2) h1 fun y g2 u F2 H2 e2 s2 r2 h2 => by
    unfold opIx at h2
    split at h2
    · obtain ⟨p, vs, rfl, q1, q2⟩ := (r1.mono e2.f).list
      cases r2.int
      split at h2
      · rename_i d hd
        obtain ⟨v, hv, rv⟩ := atI_rq q2 hd
        exact .inl ⟨p, vs, _, v, rfl, rfl, SqL.of (s2.fh _ _ q1), hv, h2.now s2 (.inl rv)⟩
      · exact h2.elim
    · obtain ⟨p, vs, rfl, q1, q2⟩ := (r1.mono e2.f).tuple
      cases r2.int
      split at h2
      · rename_i d hd
        obtain ⟨v, hv, rv⟩ := atI_rq q2 hd
        exact .inr (.inl ⟨p, vs, _, v, rfl, rfl, by rw [← hK]; exact seqT_mono s2.fh q1, hv, h2.now s2 (.inl rv)⟩)
      · exact h2.elim
    · cases r1.str
      cases r2.int
      obtain ⟨hz, h2⟩ := h2.ite
      split at h2
      · rename_i d hd
        exact .inr (.inr ⟨_, _, d, rfl, rfl, lim_ok hz, hd, h2.now s2 rStr⟩)
      · exact h2.elim
    · exact h2.elim⟩⟩
abbrev OF := RS → G → Out (Option Int)
def RO : Hp → Option Int → Option Int → Prop := fun _ a b => a = b
def tOf (c : Ctx) (W : WX) (f : OF) : TO := fun σ H Q => ∃ F ρ g, SR c F H σ ρ g ∧ PostG c σ RO (f ρ g) F H W Q
abbrev DO (X : Cx) (c : Ctx) (W : WX) (e : Option Expr) (f : OF) : Prop := PO X e (tOf c W f)
theorem PO.imp {X : Cx} {e : Option Expr} {t t' : TO} (h : PO X e t) (q : ∀ σ H Q, t' σ H Q → t σ H Q) : PO X e t' := by
  obtain ⟨h1⟩ := h
  constructor
  intros
  apply h1 <;> first | assumption | (apply q; assumption)
def oNone : OF := fun _ g => .ok none g
def oSome (fe : EF) : OF := fun ρ g => (fe ρ g).bind fun x g1 => match x with
  | .int i => .ok (some i) g1
  | _ => .bad
theorem do_none : DO X c W none oNone := PO.imp po_none fun σ H Q ⟨F, ρ, g, s, h⟩ => h.now s rfl
theorem do_some (ha : DE X c W e fe) : DO X c W (some e) (oSome fe) := PO.imp (po_some ha) fun σ H Q ⟨F, ρ, g, s, h⟩ => ⟨F, ρ, g, s, PostG.bind s h fun x g1 v F1 H1 e1 s1 r1 h1 => by
  cases x with
  | int i => cases r1.int; exact ⟨i, rfl, h1.now s1 rfl⟩
  | _ => exact h1.elim⟩
def cutD (ds : List D) (lo hi : Option Int) : List D := (ds.drop (HT.sIx ds.length 0 lo)).take (HT.sIx ds.length ds.length hi - HT.sIx ds.length 0 lo)
theorem cut_rq {K : PySem.W.Frag} {F : Hp} {vs : List V} {ds : List D} (h : RqAll K F vs ds) (lo hi : Option Int) : RqAll K F (cutV vs lo hi) (cutD ds lo hi) := by
  unfold cutV cutD
  rw [h.len]
  exact (h.drop _).take _
def eSl (fa : EF) (fl fh : OF) : EF := fun ρ g => (fa ρ g).bind fun x g1 => (fl ρ g1).bind fun lo g2 => (fh ρ g2).bind fun hi g3 => match x with
  | .list xs => .ok (.list (cutD xs lo hi)) g3
  | .tuple xs => .ok (.tuple (cutD xs lo hi)) g3
  | _ => .bad
theorem cut_whole (ds : List D) (lo hi : Option Int) (h : HT.sIx ds.length 0 lo = 0 ∧ HT.sIx ds.length ds.length hi = ds.length) : cutD ds lo hi = ds := by
  unfold cutD
  rw [h.1, h.2, List.drop_zero, Nat.sub_zero, List.take_length]
theorem d_sl {lo hi : Option Expr} {fl fh : OF} {p2 : Pos} (hK : c.K = X.K) (ha : DE X c W a fa) (hl : DO X c W lo fl) (hh : DO X c W hi fh) : DE X c W (.Subscript a (.Slice lo hi none p2) pos) (eSl fa fl fh) :=
  PE.imp (pe_slice (sl_list.or sl_tupA) ha hl hh) fun σ H Q ⟨F, ρ, g, s, h⟩ => ⟨F, ρ, g, s, PostG.bind s h fun x g1 v F1 H1 e1 s1 r1 h1 => ⟨F1, ρ, g1, s1, PostG.bind s1 h1 fun l g2 u F2 H2 e2 s2 r2 h2 => ⟨F2, ρ, g2, s2, PostG.bind s2 h2 fun hv g3 w F3 H3 e3 s3 r3 h3 => by
    cases r2
    cases r3
    cases x with
    | list xs =>
      obtain ⟨p, vs, rfl, q1, q2⟩ := ((r1.mono e2.f).mono e3.f).list
      exact .inl ⟨p, vs, rfl, SqL.of (s3.fh _ _ q1), fun q n => h3.newList s3 n (cut_rq q2 _ _)⟩
    | tuple xs =>
      have rr := (r1.mono e2.f).mono e3.f
      obtain ⟨p, vs, rfl, q1, q2⟩ := rr.tuple
      refine .inr ⟨p, vs, rfl, by rw [← hK]; exact seqT_mono s3.fh q1, fun hw => ?_, fun _ q n => h3.newTup s3 n (cut_rq q2 _ _)⟩
      rw [q2.len] at hw
      have h3 : PostG c σ (Rep c) (.ok (.tuple (cutD xs l hv)) g3) F3 H3 W Q := h3
      rw [cut_whole _ _ _ hw] at h3
      exact h3.now s3 rr
    | _ => exact h3.elim⟩⟩⟩
end
end DL
namespace DL
open PySem
open PySem.Spec
open PyProof.Rows
open L2
def KeepsL (c : Ctx) (W : WX) (r : List V → Hp → VK → Prop) (φ : List D → G → Out D) : Prop := ∀ (σ : L2.St) (ρ : RS) (g : G) (F H : Hp) (vs : List V) (ds : List D) (Q : VK), SR c F H σ ρ g → RepAll c F vs ds → PostG c σ (Rep c) (φ ds g) F H W Q → r vs H Q
def eCall (φ : List D → G → Out D) (fs : AF) : EF := fun ρ g => (fs ρ g).bind φ
section
variable {X : Cx} {c : Ctx} {W : WX} {pos p : Pos} {x : Str} {e : Expr} {es : List Expr} {fs : AF} {id T : String} {r : List V → Hp → VK → Prop} {φ : List D → G → Out D}
theorem d_callB (hc : CallR X (.builtin id) r) (hr : KeepsL c W r φ) (hg : Gl X x) (hm : X.mg x = none) (hv : bootBuiltins x = some (.builtin id)) (ha : DA X c W (e :: es) fs) (hn : x ≠ "__name__" := by decide) (hdb : (x == ("__debug__" : Str)) = false := by decide)
    (he : starEach (e :: es) X.env = (false, eval e X.env) :: starEach es X.env := by rfl) (hpl : (backTo pos (starEach es X.env)).any (·.1) = false := by rfl) : DE X c W (.Call (.Name x p) (e :: es) [] pos) (eCall φ fs) :=
  PE.imp (pe_callB hc hg hm hv ha hn hdb he hpl) fun σ H Q ⟨F, ρ, g, s, h⟩ => ⟨F, ρ, g, s, PostG.bind s h fun ds g1 vs F1 H1 e1 s1 r1 h1 => hr σ ρ g1 F1 H1 vs ds Q s1 r1 h1⟩
theorem d_callT (hc : CallR X (.type T) r) (hr : KeepsL c W r φ) (hg : Gl X x) (hm : X.mg x = none) (hv : bootBuiltins x = some (.type T)) (ha : DA X c W (e :: es) fs) (hn : x ≠ "__name__" := by decide) (hdb : (x == ("__debug__" : Str)) = false := by decide)
    (he : starEach (e :: es) X.env = (false, eval e X.env) :: starEach es X.env := by rfl) (hpl : (backTo pos (starEach es X.env)).any (·.1) = false := by rfl) : DE X c W (.Call (.Name x p) (e :: es) [] pos) (eCall φ fs) :=
  PE.imp (pe_callTy hc hg hm hv ha hn hdb he hpl) fun σ H Q ⟨F, ρ, g, s, h⟩ => ⟨F, ρ, g, s, PostG.bind s h fun ds g1 vs F1 H1 e1 s1 r1 h1 => hr σ ρ g1 F1 H1 vs ds Q s1 r1 h1⟩
end
theorem rep1 {c : Ctx} {F : Hp} {vs : List V} {d : D} (h : RepAll c F vs [d]) : ∃ v, vs = [v] ∧ Rep c F v d := by
  cases h with
  | cons h t => cases t; exact ⟨_, rfl, h⟩
theorem rep2 {c : Ctx} {F : Hp} {vs : List V} {d d' : D} (h : RepAll c F vs [d, d']) : ∃ v v', vs = [v, v'] ∧ Rep c F v d ∧ Rep c F v' d' := by
  cases h with
  | cons h t => cases t with
    | cons h' t => cases t; exact ⟨_, _, rfl, h, h'⟩
def asInts : List D → Option (List Int)
  | [] => some []
  | .int i :: r => (asInts r).map (i :: ·)
  | _ :: _ => none
def asBools : List D → Option (List Bool)
  | [] => some []
  | .bool i :: r => (asBools r).map (i :: ·)
  | _ :: _ => none
theorem asInts_map : ∀ ns : List Int, asInts (ns.map PyData.int) = some ns
  | [] => rfl
  | n :: ns => by rw [List.map_cons, asInts, asInts_map ns]; rfl
theorem asBools_map : ∀ ns : List Bool, asBools (ns.map PyData.bool) = some ns
  | [] => rfl
  | n :: ns => by rw [List.map_cons, asBools, asBools_map ns]; rfl
theorem asInts_of : ∀ {ds : List D} {ns : List Int}, asInts ds = some ns → ds = ns.map PyData.int
  | [], ns, h => by cases h; rfl
  | .int i :: r, ns, h => by
    rw [asInts] at h
    cases q : asInts r with
    | none => rw [q] at h; cases h
    | some m => rw [q] at h; cases h; rw [List.map_cons, asInts_of q]
  | .none :: _, _, h => by cases h
  | .bool _ :: _, _, h => by cases h
  | .str _ :: _, _, h => by cases h
  | .list _ :: _, _, h => by cases h
  | .tuple _ :: _, _, h => by cases h
  | .dict _ :: _, _, h => by cases h
theorem asBools_of : ∀ {ds : List D} {ns : List Bool}, asBools ds = some ns → ds = ns.map PyData.bool
  | [], ns, h => by cases h; rfl
  | .bool i :: r, ns, h => by
    rw [asBools] at h
    cases q : asBools r with
    | none => rw [q] at h; cases h
    | some m => rw [q] at h; cases h; rw [List.map_cons, asBools_of q]
  | .none :: _, _, h => by cases h
  | .int _ :: _, _, h => by cases h
  | .str _ :: _, _, h => by cases h
  | .list _ :: _, _, h => by cases h
  | .tuple _ :: _, _, h => by cases h
  | .dict _ :: _, _, h => by cases h
def bLen (ds : List D) (g : G) : Out D := match ds with
  | [.list xs] => .ok (.int xs.length) g
  | [.tuple xs] => .ok (.int xs.length) g
  | [.str z] => if z.length ≤ LIM then .ok (.int z.length) g else .bad
  | _ => .bad
def bAbs (ds : List D) (g : G) : Out D := match ds with
  | [.int i] => .ok (.int (if i < 0 then -i else i)) g
  | _ => .bad
def bInt (ds : List D) (g : G) : Out D := match ds with
  | [.int i] => .ok (.int i) g
  | [.bool k] => .ok (.int (if k then 1 else 0)) g
  | _ => .bad
def bSum (ds : List D) (g : G) : Out D := match ds with
  | [.list xs] => match asInts xs with
    | some ns => .ok (.int ns.sum) g
    | none => .bad
  | _ => .bad
def bAny (ds : List D) (g : G) : Out D := match ds with
  | [.list xs] => match asBools xs with
    | some ns => .ok (.bool (ns.any id)) g
    | none => .bad
  | _ => .bad
def bAll (ds : List D) (g : G) : Out D := match ds with
  | [.list xs] => match asBools xs with
    | some ns => .ok (.bool (ns.all id)) g
    | none => .bad
  | _ => .bad
def sortI (ns : List Int) : List Int := ns.mergeSort (fun a b => decide (a ≤ b))
def bSorted (ds : List D) (g : G) : Out D := match ds with
  | [.list xs] => match asInts xs with
    | some ns => .ok (.list ((sortI ns).map PyData.int)) g
    | none => .bad
  | _ => .bad
def bTuple (ds : List D) (g : G) : Out D := match ds with
  | [.list xs] => .ok (.tuple xs) g
  | [.tuple xs] => .ok (.tuple xs) g
  | _ => .bad
def bList (ds : List D) (g : G) : Out D := match ds with
  | [.list xs] => .ok (.list xs) g
  | [.tuple xs] => .ok (.list xs) g
  | _ => .bad
def bMax2 (ds : List D) (g : G) : Out D := match ds with
  | [.int i, .int j] => .ok (.int (if j > i then j else i)) g
  | _ => .bad
def bMin2 (ds : List D) (g : G) : Out D := match ds with
  | [.int i, .int j] => .ok (.int (if j < i then j else i)) g
  | _ => .bad
def maxL : Int → List Int → Int
  | m, [] => m
  | m, x :: r => maxL (if x > m then x else m) r
def minL : Int → List Int → Int
  | m, [] => m
  | m, x :: r => minL (if x < m then x else m) r
theorem maxL_spec : ∀ (r : List Int) (m : Int), (maxL m r = m ∨ maxL m r ∈ r) ∧ m ≤ maxL m r ∧ ∀ y ∈ r, y ≤ maxL m r
  | [], m => ⟨.inl rfl, Int.le_refl _, fun _ h => by cases h⟩
  | x :: r, m => by
    obtain ⟨h1, h2, h3⟩ := maxL_spec r (if x > m then x else m)
    have hm : m ≤ (if x > m then x else m) ∧ x ≤ (if x > m then x else m) := by split <;> omega
    refine ⟨?_, Int.le_trans hm.1 h2, fun y hy => ?_⟩
    · rcases h1 with h1 | h1
      · show maxL (if x > m then x else m) r = m ∨ maxL (if x > m then x else m) r ∈ x :: r
        rw [h1]
        split
        · exact .inr List.mem_cons_self
        · exact .inl rfl
      · exact .inr (List.mem_cons_of_mem _ h1)
    · rcases List.mem_cons.mp hy with rfl | hy
      · exact Int.le_trans hm.2 h2
      · exact h3 y hy
theorem minL_spec : ∀ (r : List Int) (m : Int), (minL m r = m ∨ minL m r ∈ r) ∧ minL m r ≤ m ∧ ∀ y ∈ r, minL m r ≤ y
  | [], m => ⟨.inl rfl, Int.le_refl _, fun _ h => by cases h⟩
  | x :: r, m => by
    obtain ⟨h1, h2, h3⟩ := minL_spec r (if x < m then x else m)
    have hm : (if x < m then x else m) ≤ m ∧ (if x < m then x else m) ≤ x := by split <;> omega
    refine ⟨?_, Int.le_trans h2 hm.1, fun y hy => ?_⟩
    · rcases h1 with h1 | h1
      · show minL (if x < m then x else m) r = m ∨ minL (if x < m then x else m) r ∈ x :: r
        rw [h1]
        split
        · exact .inr List.mem_cons_self
        · exact .inl rfl
      · exact .inr (List.mem_cons_of_mem _ h1)
    · rcases List.mem_cons.mp hy with rfl | hy
      · exact Int.le_trans h2 hm.2
      · exact h3 y hy
def bMax (ds : List D) (g : G) : Out D := match ds with
  | [.list xs] => match asInts xs with
    | some (n :: ns) => .ok (.int (maxL n ns)) g
    | _ => .bad
  | _ => .bad
def bMin (ds : List D) (g : G) : Out D := match ds with
  | [.list xs] => match asInts xs with
    | some (n :: ns) => .ok (.int (minL n ns)) g
    | _ => .bad
  | _ => .bad
section
variable {X : Cx} {c : Ctx} {W : WX}
theorem Rep.ints {c : Ctx} {F : Hp} {v : V} {ns : List Int} (h : Rep c F v (.list (ns.map PyData.int))) : ∃ a, v = .ref a ∧ F a = some (.lst (ns.map V.int)) := by
  obtain ⟨a, vs, rfl, h1, h2⟩ := h.list
  rw [h2.ints] at h1
  exact ⟨a, rfl, h1⟩
theorem Rep.bls {c : Ctx} {F : Hp} {v : V} {ns : List Bool} (h : Rep c F v (.list (ns.map PyData.bool))) : ∃ a, v = .ref a ∧ F a = some (.lst (ns.map V.bl)) := by
  obtain ⟨a, vs, rfl, h1, h2⟩ := h.list
  rw [h2.bls] at h1
  exact ⟨a, rfl, h1⟩
theorem kl_len : KeepsL c W (fun xs H Q => ∃ x n, xs = [x] ∧ LenV c.K x H n ∧ Q (.int n) H) bLen := by
  intro σ ρ g F H vs ds Q s r h
  unfold bLen at h
  split at h
  · obtain ⟨v, rfl, rv⟩ := rep1 r
    obtain ⟨a, vs, rfl, h1, h2⟩ := rv.list
    exact ⟨_, _, rfl, .inl ⟨vs, SqL.of (s.fh _ _ h1), h2.len.symm⟩, h.now s rInt⟩
  · obtain ⟨v, rfl, rv⟩ := rep1 r
    obtain ⟨a, vs, rfl, h1, h2⟩ := rv.tuple
    exact ⟨_, _, rfl, .inr ⟨vs, seqT_mono s.fh h1, h2.len.symm⟩, h.now s rInt⟩
  · obtain ⟨v, rfl, rv⟩ := rep1 r
    cases rv.str
    obtain ⟨hl, h⟩ := h.ite
    exact ⟨_, _, rfl, ⟨lim_ok hl, rfl⟩, h.now s rInt⟩
  · exact h.elim
theorem kl_abs : KeepsL c W (fun xs H Q => ∃ i, xs = [.int i] ∧ Q (.int (if i < 0 then -i else i)) H) bAbs := by
  intro σ ρ g F H vs ds Q s r h
  unfold bAbs at h
  split at h
  · obtain ⟨v, rfl, rv⟩ := rep1 r
    cases rv.int
    exact ⟨_, rfl, h.now s rInt⟩
  · exact h.elim
theorem kl_int : KeepsL c W (fun xs H Q => (∃ i, xs = [.int i] ∧ Q (.int i) H) ∨ ∃ k, xs = [.bl k] ∧ Q (.int (if k then 1 else 0)) H) bInt := by
  intro σ ρ g F H vs ds Q s r h
  unfold bInt at h
  split at h
  · obtain ⟨v, rfl, rv⟩ := rep1 r
    cases rv.int
    exact .inl ⟨_, rfl, h.now s rInt⟩
  · obtain ⟨v, rfl, rv⟩ := rep1 r
    cases rv.bl
    exact .inr ⟨_, rfl, h.now s rInt⟩
  · exact h.elim
theorem kl_sum : KeepsL c W (rSum c.K) bSum := by
  intro σ ρ g F H vs ds Q s r h
  unfold bSum at h
  split at h
  · split at h
    · rename_i ns hn
      obtain ⟨v, rfl, rv⟩ := rep1 r
      rw [asInts_of hn] at rv
      obtain ⟨a, rfl, h1⟩ := rv.ints
      exact ⟨a, ns, rfl, SqL.of (s.fh _ _ h1), h.now s rInt⟩
    · exact h.elim
  · exact h.elim
theorem kl_any : KeepsL c W (rAny c.K) bAny := by
  intro σ ρ g F H vs ds Q s r h
  unfold bAny at h
  split at h
  · split at h
    · rename_i ns hn
      obtain ⟨v, rfl, rv⟩ := rep1 r
      rw [asBools_of hn] at rv
      obtain ⟨a, rfl, h1⟩ := rv.bls
      exact ⟨a, ns, rfl, SqL.of (s.fh _ _ h1), h.now s rBl⟩
    · exact h.elim
  · exact h.elim
theorem kl_all : KeepsL c W (rAll c.K) bAll := by
  intro σ ρ g F H vs ds Q s r h
  unfold bAll at h
  split at h
  · split at h
    · rename_i ns hn
      obtain ⟨v, rfl, rv⟩ := rep1 r
      rw [asBools_of hn] at rv
      obtain ⟨a, rfl, h1⟩ := rv.bls
      exact ⟨a, ns, rfl, SqL.of (s.fh _ _ h1), h.now s rBl⟩
    · exact h.elim
  · exact h.elim
theorem sortI_perm (ns : List Int) : (sortI ns).Perm ns := List.mergeSort_perm _ _
theorem sortI_sorted (ns : List Int) : (sortI ns).Pairwise (· ≤ ·) := by
  have h := List.pairwise_mergeSort (le := fun a b : Int => decide (a ≤ b)) (fun a b c h1 h2 => by simp at *; omega) (fun a b => by simp; omega) ns
  exact h.imp fun h => by simpa using h
theorem sortI_uniq {ns ms : List Int} (h : ms.Perm ns) (o : ms.Pairwise (· ≤ ·)) : ms = sortI ns := PySem.W.ksm_same (h.trans (sortI_perm ns).symm) o (sortI_sorted ns)
theorem kl_sorted : KeepsL c W (rSortedI c.K) bSorted := by
  intro σ ρ g F H vs ds Q s r h
  unfold bSorted at h
  split at h
  · split at h
    · rename_i ns hn
      obtain ⟨v, rfl, rv⟩ := rep1 r
      rw [asInts_of hn] at rv
      obtain ⟨a, rfl, h1⟩ := rv.ints
      refine ⟨a, ns, rfl, SqL.of (s.fh _ _ h1), fun ns' p hp ho hn => ?_⟩
      rw [sortI_uniq hp ho]
      exact h.newList s hn (dpInts _)
    · exact h.elim
  · exact h.elim
theorem kl_tuple : KeepsL c W (fun xs H Q => ∃ p ys, xs = [.ref p] ∧ ((SqL c.K H p ys ∧ ∀ l, H l = none → Q (.ref l) (upd H l (.tup ys))) ∨ (SqT c.K H p ys ∧ Q (.ref p) H))) bTuple := by
  intro σ ρ g F H vs ds Q s r h
  unfold bTuple at h
  split at h
  · obtain ⟨v, rfl, rv⟩ := rep1 r
    obtain ⟨a, vs, rfl, h1, h2⟩ := rv.list
    exact ⟨a, vs, rfl, .inl ⟨SqL.of (s.fh _ _ h1), fun p n => h.newTup s n h2⟩⟩
  · obtain ⟨v, rfl, rv⟩ := rep1 r
    obtain ⟨a, vs, rfl, h1, h2⟩ := rv.tuple
    exact ⟨a, vs, rfl, .inr ⟨seqT_mono s.fh h1, h.now s rv⟩⟩
  · exact h.elim
theorem kl_list : KeepsL c W (fun xs H Q => ∃ p ys, xs = [.ref p] ∧ (SqL c.K H p ys ∨ SqT c.K H p ys) ∧ ∀ l, H l = none → Q (.ref l) (upd H l (.lst ys))) bList := by
  intro σ ρ g F H vs ds Q s r h
  unfold bList at h
  split at h
  · obtain ⟨v, rfl, rv⟩ := rep1 r
    obtain ⟨a, vs, rfl, h1, h2⟩ := rv.list
    exact ⟨a, vs, rfl, .inl (SqL.of (s.fh _ _ h1)), fun p n => h.newList s n h2⟩
  · obtain ⟨v, rfl, rv⟩ := rep1 r
    obtain ⟨a, vs, rfl, h1, h2⟩ := rv.tuple
    exact ⟨a, vs, rfl, .inr (seqT_mono s.fh h1), fun p n => h.newList s n h2⟩
  · exact h.elim
theorem kl_max2 : KeepsL c W (fun xs H Q => ∃ i j, xs = [.int i, .int j] ∧ Q (.int (if j > i then j else i)) H) bMax2 := by
  intro σ ρ g F H vs ds Q s r h
  unfold bMax2 at h
  split at h
  · obtain ⟨v, v', rfl, rv, rv'⟩ := rep2 r
    cases rv.int
    cases rv'.int
    exact ⟨_, _, rfl, h.now s rInt⟩
  · exact h.elim
theorem kl_min2 : KeepsL c W (fun xs H Q => ∃ i j, xs = [.int i, .int j] ∧ Q (.int (if j < i then j else i)) H) bMin2 := by
  intro σ ρ g F H vs ds Q s r h
  unfold bMin2 at h
  split at h
  · obtain ⟨v, v', rfl, rv, rv'⟩ := rep2 r
    cases rv.int
    cases rv'.int
    exact ⟨_, _, rfl, h.now s rInt⟩
  · exact h.elim
theorem kl_max : KeepsL c W (rMax c.K) bMax := by
  intro σ ρ g F H vs ds Q s r h
  unfold bMax at h
  split at h
  · split at h
    · rename_i n ns hn
      obtain ⟨v, rfl, rv⟩ := rep1 r
      rw [asInts_of hn] at rv
      obtain ⟨a, rfl, h1⟩ := rv.ints
      refine ⟨a, n :: ns, rfl, SqL.of (s.fh _ _ h1), Nat.succ_pos _, fun m hm hy => ?_⟩
      obtain ⟨k1, k2, k3⟩ := maxL_spec ns n
      have e : m = maxL n ns := by
        have t1 : maxL n ns ≤ m := by
          rcases k1 with k1 | k1
          · rw [k1]; exact hy _ List.mem_cons_self
          · exact hy _ (List.mem_cons_of_mem _ k1)
        have t2 : m ≤ maxL n ns := by
          rcases List.mem_cons.mp hm with rfl | hm
          · exact k2
          · exact k3 m hm
        omega
      rw [e]
      exact h.now s rInt
    · exact h.elim
  · exact h.elim
theorem kl_min : KeepsL c W (rMin c.K) bMin := by
  intro σ ρ g F H vs ds Q s r h
  unfold bMin at h
  split at h
  · split at h
    · rename_i n ns hn
      obtain ⟨v, rfl, rv⟩ := rep1 r
      rw [asInts_of hn] at rv
      obtain ⟨a, rfl, h1⟩ := rv.ints
      refine ⟨a, n :: ns, rfl, SqL.of (s.fh _ _ h1), Nat.succ_pos _, fun m hm hy => ?_⟩
      obtain ⟨k1, k2, k3⟩ := minL_spec ns n
      have e : m = minL n ns := by
        have t1 : m ≤ minL n ns := by
          rcases k1 with k1 | k1
          · rw [k1]; exact hy _ List.mem_cons_self
          · exact hy _ (List.mem_cons_of_mem _ k1)
        have t2 : minL n ns ≤ m := by
          rcases List.mem_cons.mp hm with rfl | hm
          · exact k2
          · exact k3 m hm
        omega
      rw [e]
      exact h.now s rInt
    · exact h.elim
  · exact h.elim
end
def CPost (c : Ctx) (F H : Hp) (o : Out D) (Q : VK) (E : XK) : Prop := match o with
  | .ok d g => ∀ v F' H', Ext c.sa c.sb F H F' H' → GOk c F' H' g → Rep c F' v d → Q v H'
  | .exc n fs g => ∀ C dx vs F' H', Ext c.sa c.sb F H F' H' → GOk c F' H' g → c.cl n = some C → H' dx = some (.xd vs) → FldR c F' vs fs → E (.ref C) (some dx) H'
  | .bad => False
def spD (K : PySem.W.Frag) (cl : Str → Option Addr) (m : List D → G → Out D) : Sp := fun vs H Q E => ∃ (sa sb : Addr) (F : Hp) (ds : List D) (g : G), Same F H ∧ GOk (mkC K cl sa sb F H) F H g ∧ RepAll (mkC K cl sa sb F H) F vs ds ∧ CPost (mkC K cl sa sb F H) F H (m ds g) Q E
abbrev FnD (P : Program) (w : World) (K : PySem.W.Frag) (mg : Str → Option Value) (base : Heap) (cl : Str → Option Addr) (k : Nat) (f : Addr) (fd : FuncData) (ps : List Str) (m : List D → G → Out D) : Prop := FnOk P w K mg base (L2.CX P w) k f fd ps (spD K cl m)
theorem RepAll.conv {c c' : Ctx} {F : Hp} (h1 : c.K = c'.K) (h2 : c.sa = c'.sa) : ∀ {vs : List V} {ds : List D}, RepAll c F vs ds → RepAll c' F vs ds
  | _, _, .nil => .nil
  | _, _, .cons h t => .cons (by unfold Rep at h ⊢; rw [← h1, ← h2]; exact h) (RepAll.conv h1 h2 t)
theorem GOk.conv {c c' : Ctx} {F H : Hp} {g : G} (h1 : c.sa = c'.sa) (h2 : c.sb = c'.sb) (k : GOk c F H g) : GOk c' F H g :=
  ⟨by rw [← h1, ← h2]; exact k.ne, by rw [← h1, ← h2]; exact k.ha, by rw [← h2]; exact k.hb, by rw [← h1]; exact k.fa, by rw [← h2]; exact k.fb, k.wf⟩
section
variable {X : Cx} {c : Ctx} {W : WX} {pos p : Pos} {x : Str} {e : Expr} {es : List Expr} {fs : AF}
theorem sp_of {m : List D → G → Out D} {ds : List D} {vs : List V} {g : G} {F H : Hp} {σ : L2.St} {ρ : RS} {Q : VK} (s : SR c F H σ ρ g) (r : RepAll c F vs ds) (h : PostG c σ (Rep c) (m ds g) F H W Q) : spD c.K c.cl m vs H Q (WE W σ) := by
  refine ⟨c.sa, c.sb, F, ds, g, s.fh, GOk.conv (c := c) (c' := (mkC c.K c.cl c.sa c.sb F H)) rfl rfl s.gok, RepAll.conv (c := c) (c' := (mkC c.K c.cl c.sa c.sb F H)) rfl rfl r, ?_⟩
  unfold CPost
  unfold PostG at h
  cases hm : m ds g with
  | ok d g' => rw [hm] at h; exact fun v F' H' e1 gk rr => h v F' H' e1 (GOk.conv (c := (mkC c.K c.cl c.sa c.sb F H)) (c' := c) rfl rfl gk) rr
  | exc n fs g' => rw [hm] at h; exact fun C dx vs F' H' e1 gk hc hd hf => h C dx vs F' H' e1 (GOk.conv (c := (mkC c.K c.cl c.sa c.sb F H)) (c' := c) rfl rfl gk) hc hd hf
  | bad => rw [hm] at h; exact h
theorem d_call {k : Nat} {f : Addr} {fd : FuncData} {ps : List Str} {m : List D → G → Out D} (hK : c.K = X.K) (Fn : FnD X.prog X.w X.K X.mg X.base c.cl k f fd ps m) (hr : Room k X.A) (hg : Gl X x) (hm : X.mg x = some (.ref f)) (hk : PySem.W.keepIn X.K (.ref f) = true) (hb : Binds X.K fd ps []) (tk : Takes X W) (ha : DA X c W (e :: es) fs)
    (hdb : (x == ("__debug__" : Str)) = false := by decide) (he : starEach (e :: es) X.env = (false, eval e X.env) :: starEach es X.env := by rfl) (hpl : (backTo pos (starEach es X.env)).any (·.1) = false := by rfl) :
    DE X c W (.Call (.Name x p) (e :: es) [] pos) (eCall m fs) :=
  PE.imp (pe_callS Fn hr hg hm hk hb (fun σ => passAt tk σ) ha hdb he hpl) fun σ H Q ⟨F, ρ, g, s, h⟩ => ⟨F, ρ, g, s, PostG.bind s h fun ds g1 vs F1 H1 e1 s1 r1 h1 => by rw [← hK]; exact sp_of s1 r1 h1⟩
end
abbrev LF := RS → G → Out (List D)
def IterR (c : Ctx) (F : Hp) (J : It) (ds : List D) : Prop := ∀ (i : Nat) (H : Hp), Same F H →
  (∀ d, ds[i]? = some d → J.go i H ∧ ∀ x H', J.yld i H x H' → H' = H ∧ Rep c F x d) ∧ (ds.length ≤ i → J.stop i H)
def tI (c : Ctx) (W : WX) (f : LF) : TI := fun σ H R => ∃ F ρ g, SR c F H σ ρ g ∧ PostG c σ (IterR c) (f ρ g) F H W R
abbrev DI (X : Cx) (c : Ctx) (W : WX) (tg e : Expr) (f : LF) : Prop := PI X tg e (tI c W f)
theorem PI.imp {X : Cx} {tg e : Expr} {t t' : TI} (h : PI X tg e t) (q : ∀ σ H Q, t' σ H Q → t σ H Q) : PI X tg e t' := ⟨fun pins s σ H Q I w => h.run pins s σ H Q I (q σ H Q w)⟩
def iLst (fe : EF) : LF := fun ρ g => (fe ρ g).bind fun x g1 => match x with
  | .list xs => .ok xs g1
  | _ => .bad
def iTpl (fe : EF) : LF := fun ρ g => (fe ρ g).bind fun x g1 => match x with
  | .tuple xs => .ok xs g1
  | _ => .bad
def upTo (lo : Int) (n : Nat) : List D := (List.range n).map fun (i : Nat) => PyData.int (lo + (i : Int))
def iRan1 (fs : AF) : LF := fun ρ g => (fs ρ g).bind fun xs g1 => match xs with
  | [.int j] => if -(2 ^ 62) ≤ j ∧ j < 2 ^ 62 then .ok (upTo 0 j.toNat) g1 else .bad
  | _ => .bad
def iRan2 (fs : AF) : LF := fun ρ g => (fs ρ g).bind fun xs g1 => match xs with
  | [.int i, .int j] => if -(2 ^ 62) ≤ i ∧ i < 2 ^ 62 ∧ -(2 ^ 62) ≤ j ∧ j < 2 ^ 62 then .ok (upTo i (j - i).toNat) g1 else .bad
  | _ => .bad
section
variable {X : Cx} {c : Ctx} {W : WX} {pos p : Pos} {tg e : Expr} {es : List Expr} {fs : AF} {fe : EF}
theorem iter_l {F : Hp} {a : Addr} {vs : List V} {ds : List D} (h1 : F a = some (.lst vs)) (h2 : RqAll c.K F vs ds) : IterR c F (Itl c.K a) ds := fun i H sm => by
  have hs : SqL c.K H a vs := SqL.of (sm _ _ h1)
  refine ⟨fun d hd => ?_, fun hl => ⟨vs, hs, by rw [h2.len]; exact hl⟩⟩
  obtain ⟨v, hv, rv⟩ := h2.get hd
  refine ⟨⟨vs, v, hs, hv⟩, fun x H' y => ⟨y.1, ?_⟩⟩
  have := y.2 vs hs
  rw [hv] at this
  cases this
  exact .inl rv
theorem iter_t {F : Hp} {a : Addr} {vs : List V} {ds : List D} (h1 : SqT c.K F a vs) (h2 : RqAll c.K F vs ds) : IterR c F (Itt c.K a) ds := fun i H sm => by
  have hs : SqT c.K H a vs := seqT_mono sm h1
  refine ⟨fun d hd => ?_, fun hl => ⟨vs, hs, by rw [h2.len]; exact hl⟩⟩
  obtain ⟨v, hv, rv⟩ := h2.get hd
  refine ⟨⟨vs, v, hs, hv⟩, fun x H' y => ⟨y.1, ?_⟩⟩
  have := y.2 vs hs
  rw [hv] at this
  cases this
  exact .inl rv
theorem upTo_get {lo : Int} {n i : Nat} {d : D} (h : (upTo lo n)[i]? = some d) : i < n ∧ d = .int (lo + (i : Int)) := by
  unfold upTo at h
  rw [List.getElem?_map] at h
  by_cases hi : i < n
  · rw [List.getElem?_range hi] at h
    cases h
    exact ⟨hi, rfl⟩
  · rw [List.getElem?_eq_none (by simpa using hi)] at h
    cases h
theorem upTo_length {lo : Int} {n : Nat} : (upTo lo n).length = n := by unfold upTo; simp
theorem iter_r {F : Hp} {lo : Int} {n : Nat} : IterR c F (Itr lo n) (upTo lo n) := fun i H sm => by
  refine ⟨fun d hd => ?_, fun hl => by rw [upTo_length] at hl; exact hl⟩
  obtain ⟨h1, rfl⟩ := upTo_get hd
  exact ⟨h1, fun x H' y => ⟨y.1, by rw [y.2]; exact rInt⟩⟩
theorem di_list (hK : c.K = X.K) (ha : DE X c W e fe) : DI X c W tg e (iLst fe) := PI.imp (pi_list ha) fun σ H R ⟨F, ρ, g, s, h⟩ => ⟨F, ρ, g, s, PostG.bind s h fun x g1 v F1 H1 e1 s1 r1 h1 => by
  cases x with
  | list xs =>
    obtain ⟨a, vs, rfl, q1, q2⟩ := r1.list
    rw [← hK]
    exact ⟨a, rfl, ⟨vs, SqL.of (s1.fh _ _ q1)⟩, h1.now s1 (iter_l q1 q2)⟩
  | _ => exact h1.elim⟩
theorem di_tup (hK : c.K = X.K) (ha : DE X c W e fe) : DI X c W tg e (iTpl fe) := PI.imp (pi_tup ha) fun σ H R ⟨F, ρ, g, s, h⟩ => ⟨F, ρ, g, s, PostG.bind s h fun x g1 v F1 H1 e1 s1 r1 h1 => by
  cases x with
  | tuple xs =>
    obtain ⟨a, vs, rfl, q1, q2⟩ := r1.tuple
    rw [← hK]
    exact ⟨a, rfl, ⟨vs, seqT_mono s1.fh q1⟩, h1.now s1 (iter_t q1 q2)⟩
  | _ => exact h1.elim⟩
theorem di_ran1 {a : Expr} (hg : Gl X "range") (hm : X.mg "range" = none) (ha : DA X c W [a] fs) (hs : starEach [a] X.env = [(false, eval a X.env)] := by rfl) : DI X c W tg (.Call (.Name "range" p) [a] [] pos) (iRan1 fs) :=
  PI.imp (pi_range1 hg hm ha hs) fun σ H R ⟨F, ρ, g, s, h⟩ => ⟨F, ρ, g, s, PostG.bind s h fun xs g1 vs F1 H1 e1 s1 r1 h1 => by
    split at h1
    · obtain ⟨v, rfl, rv⟩ := rep1 r1
      cases rv.int
      obtain ⟨⟨k1, k2⟩, h1⟩ := h1.ite
      exact ⟨_, rfl, k1, k2, h1.now s1 iter_r⟩
    · exact h1.elim⟩
theorem di_ran2 {a b : Expr} (hg : Gl X "range") (hm : X.mg "range" = none) (ha : DA X c W [a, b] fs) (hs : starEach [a, b] X.env = [(false, eval a X.env), (false, eval b X.env)] := by rfl) (hs2 : starEach [b] X.env = [(false, eval b X.env)] := by rfl) : DI X c W tg (.Call (.Name "range" p) [a, b] [] pos) (iRan2 fs) :=
  PI.imp (pi_range2 hg hm ha hs hs2) fun σ H R ⟨F, ρ, g, s, h⟩ => ⟨F, ρ, g, s, PostG.bind s h fun xs g1 vs F1 H1 e1 s1 r1 h1 => by
    split at h1
    · obtain ⟨v, v', rfl, rv, rv'⟩ := rep2 r1
      cases rv.int
      cases rv'.int
      obtain ⟨k1, h1⟩ := h1.ite
      exact ⟨_, _, rfl, k1, h1.now s1 iter_r⟩
    · exact h1.elim⟩
end
end DL
namespace DL
open PySem
open PySem.Spec
open PyProof.Rows
open L2
section
variable {c : Ctx} {F H : Hp} {σ : L2.St} {ρ : RS} {g : G}
theorem SR.setD (s : SR c F H σ ρ g) {v : V} {x : D} (r : Rep c F v x) (i : Nat) : SR c F H (σ.set i (some v)) (ρ.set i (.d x)) g where
  ext := s.ext
  gok := s.gok
  g0 := s.g0
  len := by rw [List.length_set, List.length_set, s.len]
  slots := fun j y h => by
    by_cases hj : i = j
    · subst hj
      by_cases hi : i < ρ.length
      · rw [List.getElem?_set_self hi] at h
        cases h
        rw [List.getElem?_set_self (by rw [s.len]; exact hi)]
        exact ⟨v, rfl, r⟩
      · rw [List.getElem?_eq_none (by rw [List.length_set]; omega)] at h
        cases h
    · rw [List.getElem?_set_ne hj] at h ⊢
      exact s.slots j y h
  sep := fun j k xs ys a h1 h2 h3 h4 => by
    have n1 : i ≠ j := fun e => by
      subst e
      by_cases hi : i < ρ.length
      · rw [List.getElem?_set_self hi] at h1; cases h1
      · rw [List.getElem?_eq_none (by rw [List.length_set]; omega)] at h1; cases h1
    have n2 : i ≠ k := fun e => by
      subst e
      by_cases hi : i < ρ.length
      · rw [List.getElem?_set_self hi] at h2; cases h2
      · rw [List.getElem?_eq_none (by rw [List.length_set]; omega)] at h2; cases h2
    rw [List.getElem?_set_ne n1] at h1 h3
    rw [List.getElem?_set_ne n2] at h2 h4
    exact s.sep j k xs ys a h1 h2 h3 h4
theorem SR.unset (s : SR c F H σ ρ g) (o : Option V) (i : Nat) : SR c F H (σ.set i o) (ρ.set i .un) g where
  ext := s.ext
  gok := s.gok
  g0 := s.g0
  len := by rw [List.length_set, List.length_set, s.len]
  slots := fun j y h => by
    by_cases hj : i = j
    · subst hj
      by_cases hi : i < ρ.length
      · rw [List.getElem?_set_self hi] at h
        cases h
        trivial
      · rw [List.getElem?_eq_none (by rw [List.length_set]; omega)] at h
        cases h
    · rw [List.getElem?_set_ne hj] at h ⊢
      exact s.slots j y h
  sep := fun j k xs ys a h1 h2 h3 h4 => by
    have n1 : i ≠ j := fun e => by
      subst e
      by_cases hi : i < ρ.length
      · rw [List.getElem?_set_self hi] at h1; cases h1
      · rw [List.getElem?_eq_none (by rw [List.length_set]; omega)] at h1; cases h1
    have n2 : i ≠ k := fun e => by
      subst e
      by_cases hi : i < ρ.length
      · rw [List.getElem?_set_self hi] at h2; cases h2
      · rw [List.getElem?_eq_none (by rw [List.length_set]; omega)] at h2; cases h2
    rw [List.getElem?_set_ne n1] at h1 h3
    rw [List.getElem?_set_ne n2] at h2 h4
    exact s.sep j k xs ys a h1 h2 h3 h4
theorem SR.own (s : SR c F H σ ρ g) {i : Nat} {xs : List D} (h : ρ[i]? = some (.own xs)) : ∃ a vs, σ[i]? = some (some (.ref a)) ∧ H a = some (.lst vs) ∧ RqAll c.K F vs xs ∧ F a = none ∧ c.H0 a = none := s.slots i _ h
theorem SR.setO (s : SR c F H σ ρ g) {p : Addr} {vs : List V} {xs : List D} (h1 : H p = some (.lst vs)) (h2 : F p = none) (h3 : c.H0 p = none) (h4 : RqAll c.K F vs xs) (h5 : ∀ (j : Nat) (ys : List D), ρ[j]? = some (.own ys) → σ[j]? ≠ some (some (.ref p))) (i : Nat) : SR c F H (σ.set i (some (.ref p))) (ρ.set i (.own xs)) g where
  ext := s.ext
  gok := s.gok
  g0 := s.g0
  len := by rw [List.length_set, List.length_set, s.len]
  slots := fun j y h => by
    by_cases hj : i = j
    · subst hj
      by_cases hi : i < ρ.length
      · rw [List.getElem?_set_self hi] at h
        cases h
        rw [List.getElem?_set_self (by rw [s.len]; exact hi)]
        exact ⟨p, vs, rfl, h1, h4, h2, h3⟩
      · rw [List.getElem?_eq_none (by rw [List.length_set]; omega)] at h
        cases h
    · rw [List.getElem?_set_ne hj] at h ⊢
      exact s.slots j y h
  sep := fun j k xs' ys a k1 k2 k3 k4 => by
    by_cases hj : i = j
    · by_cases hk : i = k
      · omega
      · subst hj
        rw [List.getElem?_set_ne hk] at k2 k4
        by_cases hi : i < σ.length
        · rw [List.getElem?_set_self hi] at k3
          cases k3
          exact absurd k4 (h5 k ys k2)
        · rw [List.getElem?_eq_none (by rw [List.length_set]; omega)] at k3
          cases k3
    · rw [List.getElem?_set_ne hj] at k1 k3
      by_cases hk : i = k
      · subst hk
        by_cases hi : i < σ.length
        · rw [List.getElem?_set_self hi] at k4
          cases k4
          exact absurd k3 (h5 j xs' k1)
        · rw [List.getElem?_eq_none (by rw [List.length_set]; omega)] at k4
          cases k4
      · rw [List.getElem?_set_ne hk] at k2 k4
        exact s.sep j k xs' ys a k1 k2 k3 k4
theorem set_own {ρ : RS} {i j : Nat} {x : SV} {ys : List D} (n : ∀ ys : List D, x ≠ .own ys) (h : (ρ.set i x)[j]? = some (.own ys)) : i ≠ j ∧ ρ[j]? = some (.own ys) := by
  by_cases e : i = j
  · subst e
    by_cases hi : i < ρ.length
    · rw [List.getElem?_set_self hi] at h
      exact absurd (Option.some.inj h) (n ys)
    · rw [List.getElem?_eq_none (by rw [List.length_set]; omega)] at h; cases h
  · rw [List.getElem?_set_ne e] at h
    exact ⟨e, h⟩
theorem SR.setDic (s : SR c F H σ ρ g) {p : Addr} {kvs : DK} (h1 : H p = some (.dT (dKV kvs))) (h2 : F p = none) (h3 : c.H0 p = none) (i : Nat) : SR c F H (σ.set i (some (.ref p))) (ρ.set i (.odc kvs)) g where
  ext := s.ext
  gok := s.gok
  g0 := s.g0
  len := by rw [List.length_set, List.length_set, s.len]
  slots := fun j y h => by
    by_cases hj : i = j
    · subst hj
      by_cases hi : i < ρ.length
      · rw [List.getElem?_set_self hi] at h
        cases h
        rw [List.getElem?_set_self (by rw [s.len]; exact hi)]
        exact ⟨p, rfl, h1, h2, h3⟩
      · rw [List.getElem?_eq_none (by rw [List.length_set]; omega)] at h
        cases h
    · rw [List.getElem?_set_ne hj] at h ⊢
      exact s.slots j y h
  sep := fun j k xs' ys a k1 k2 k3 k4 => by
    obtain ⟨n1, k1⟩ := set_own (fun _ e => by cases e) k1
    obtain ⟨n2, k2⟩ := set_own (fun _ e => by cases e) k2
    rw [List.getElem?_set_ne n1] at k3
    rw [List.getElem?_set_ne n2] at k4
    exact s.sep j k xs' ys a k1 k2 k3 k4
theorem SR.updO (s : SR c F H σ ρ g) {i : Nat} {a : Addr} {xs xs' : List D} {vs vs' : List V} (h : ρ[i]? = some (.own xs)) (e : σ[i]? = some (some (.ref a))) (h1 : H a = some (.lst vs)) (h2 : F a = none) (h3 : c.H0 a = none) (h4 : RqAll c.K F vs' xs') : SR c F (upd H a (.lst vs')) σ (ρ.set i (.own xs')) g where
  ext := {
    f := s.ext.f
    fh := fun p o q => by
      rw [upd_ne (ne_of_none q h2)]
      exact s.ext.fh p o q
    keep := fun p o q n m => by
      rw [upd_ne (ne_of_none q h3)]
      exact s.ext.keep p o q n m
    dom := fun p o q => by
      rw [upd_ne (ne_of_none q h3)]
      exact s.ext.dom p o q
    ff := s.ext.ff }
  gok := by
    obtain ⟨n1, n2⟩ := s.ownNe h3
    exact s.gok.ext rfl rfl (upd_ne n1.symm) (upd_ne n2.symm)
  g0 := s.g0
  len := by rw [List.length_set, s.len]
  slots := fun j y k => by
    by_cases hj : i = j
    · subst hj
      have hi : i < ρ.length := (List.getElem?_eq_some_iff.mp h).1
      rw [List.getElem?_set_self hi] at k
      cases k
      exact ⟨a, vs', e, upd_same, h4, h2, h3⟩
    · rw [List.getElem?_set_ne hj] at k
      have q := s.slots j y k
      cases y with
      | un => trivial
      | d x => exact q
      | own ys =>
        obtain ⟨b, ws, q1, q2, q3, q4, q5⟩ := q
        refine ⟨b, ws, q1, ?_, q3, q4, q5⟩
        rw [upd_ne fun z => hj (s.sep i j xs ys a h k e (by rw [← z]; exact q1))]
        exact q2
      | ex fs =>
        obtain ⟨ws, q1, q2, q3⟩ := q
        refine ⟨ws, q1, ?_, q3⟩
        rw [upd_ne fun z => by rw [z, h1] at q2; cases q2]
        exact q2
      | odc kvs =>
        obtain ⟨b, q1, q2, q3, q4⟩ := q
        refine ⟨b, q1, ?_, q3, q4⟩
        rw [upd_ne fun z => by rw [z, h1] at q2; cases q2]
        exact q2
  sep := fun j k xs1 ys b k1 k2 k3 k4 => by
    have up : ∀ {m : Nat} {zs : List D}, (ρ.set i (.own xs'))[m]? = some (.own zs) → ∃ zs', ρ[m]? = some (.own zs') := fun {m zs} q => by
      by_cases hm : i = m
      · subst hm; exact ⟨xs, h⟩
      · rw [List.getElem?_set_ne hm] at q; exact ⟨zs, q⟩
    obtain ⟨z1, k1⟩ := up k1
    obtain ⟨z2, k2⟩ := up k2
    exact s.sep j k z1 z2 b k1 k2 k3 k4
theorem SR.freeze (s : SR c F H σ ρ g) {i : Nat} {a : Addr} {xs : List D} {vs : List V} (h : ρ[i]? = some (.own xs)) (e : σ[i]? = some (some (.ref a))) (h1 : H a = some (.lst vs)) (h2 : F a = none) (h3 : c.H0 a = none) (h4 : RqAll c.K F vs xs) : SR c (upd F a (.lst vs)) H σ (ρ.set i (.d (.list xs))) g := by
  have sm : Same F (upd F a (.lst vs)) := fun b o q => by rw [upd_ne (ne_of_none q h2)]; exact q
  obtain ⟨n1, n2⟩ := s.ownNe h3
  refine { ext := ?_, gok := s.gok.ext (upd_ne n1.symm) (upd_ne n2.symm) rfl rfl, g0 := s.g0, len := by rw [List.length_set, s.len], slots := fun j y k => ?_, sep := fun j k xs1 ys b k1 k2 k3 k4 => ?_ }
  · refine ⟨s.ext.f.trans sm, fun b o q => ?_, s.ext.keep, s.ext.dom, fun b o q => ?_⟩
    · by_cases hb : b = a
      · subst hb; rw [upd_same] at q; cases q; exact h1
      · rw [upd_ne hb] at q; exact s.ext.fh b o q
    · rw [upd_ne (ne_of_none q h3)]; exact s.ext.ff b o q
  · by_cases hj : i = j
    · subst hj
      have hi : i < ρ.length := (List.getElem?_eq_some_iff.mp h).1
      rw [List.getElem?_set_self hi] at k
      cases k
      exact ⟨.ref a, e, .inl (.lst upd_same (RqAll_mono sm _ _ h4))⟩
    · rw [List.getElem?_set_ne hj] at k
      have q := s.slots j y k
      cases y with
      | un => trivial
      | d x =>
        obtain ⟨v, q1, q2⟩ := q
        exact ⟨v, q1, q2.mono sm⟩
      | own ys =>
        obtain ⟨b, ws, q1, q2, q3, q4, q5⟩ := q
        refine ⟨b, ws, q1, q2, RqAll_mono sm _ _ q3, ?_, q5⟩
        rw [upd_ne fun z => hj (s.sep i j xs ys a h k e (by rw [← z]; exact q1))]
        exact q4
      | ex fs =>
        obtain ⟨ws, q1, q2, q3⟩ := q
        exact ⟨ws, q1, q2, q3.mono sm⟩
      | odc kvs =>
        obtain ⟨b, q1, q2, q3, q4⟩ := q
        refine ⟨b, q1, q2, ?_, q4⟩
        rw [upd_ne fun z => by rw [z, h1] at q2; cases q2]
        exact q3
  · have up : ∀ {m : Nat} {zs : List D}, (ρ.set i (.d (.list xs)))[m]? = some (.own zs) → ρ[m]? = some (.own zs) := fun {m zs} q => by
      by_cases hm : i = m
      · subst hm
        have hi : i < ρ.length := (List.getElem?_eq_some_iff.mp h).1
        rw [List.getElem?_set_self hi] at q
        cases q
      · rw [List.getElem?_set_ne hm] at q; exact q
    exact s.sep j k xs1 ys b (up k1) (up k2) k3 k4
end
def wipeR (ρ : RS) : List Nat → RS
  | [] => ρ
  | v :: vs => (wipeR ρ vs).set v .un
theorem SR.wipe {c : Ctx} {F H : Hp} {σ : L2.St} {ρ : RS} {g : G} (s : SR c F H σ ρ g) : ∀ vs : List Nat, SR c F H (L2.wipe σ vs) (wipeR ρ vs) g
  | [] => s
  | v :: vs => (SR.wipe s vs).unset none v
abbrev BF := D → RS → Option RS
def But (is : List Nat) (σ σ' : L2.St) : Prop := σ'.length = σ.length ∧ ∀ j : Nat, j ∉ is → σ'[j]? = σ[j]?
theorem But.refl {is : List Nat} {σ : L2.St} : But is σ σ := ⟨rfl, fun _ _ => rfl⟩
theorem But.trans {is js : List Nat} {σ σ1 σ2 : L2.St} (a : But is σ σ1) (b : But js σ1 σ2) : But (is ++ js) σ σ2 := ⟨b.1.trans a.1, fun j h => (b.2 j fun z => h (List.mem_append_right _ z)).trans (a.2 j fun z => h (List.mem_append_left _ z))⟩
def tG (c : Ctx) (is : List Nat) (b : BF) : TG := fun v σ H Q => ∃ F ρ g x ρ', SR c F H σ ρ g ∧ Rep c F v x ∧ b x ρ = some ρ' ∧ ∀ σ', SR c F H σ' ρ' g → But is σ σ' → Q σ' H
def tGs (c : Ctx) (is : List Nat) (b : List D → RS → Option RS) : TGs := fun vs σ H Q => ∃ F ρ g xs ρ', SR c F H σ ρ g ∧ RqAll c.K F vs xs ∧ b xs ρ = some ρ' ∧ ∀ σ', SR c F H σ' ρ' g → But is σ σ' → Q σ' H
abbrev DG (X : Cx) (c : Ctx) (is : List Nat) (e : Expr) (b : BF) : Prop := PG X e (tG c is b)
abbrev DGs (X : Cx) (c : Ctx) (is : List Nat) (es : List Expr) (b : List D → RS → Option RS) : Prop := PGs X es (tGs c is b)
theorem PG.imp {X : Cx} {e : Expr} {t t' : TG} (h : PG X e t) (q : ∀ v σ H Q, t' v σ H Q → t v σ H Q) : PG X e t' := ⟨fun pins s σ H v u Q I r w => h.run pins s σ H v u Q I r (q v σ H Q w)⟩
theorem PGs.imp {X : Cx} {e : List Expr} {t t' : TGs} (h : PGs X e t) (q : ∀ v σ H Q, t' v σ H Q → t v σ H Q) : PGs X e t' := ⟨fun pins s σ H v u Q I r w => h.run pins s σ H v u Q I r (q v σ H Q w)⟩
def bName (i : Nat) : BF := fun x ρ => some (ρ.set i (.d x))
def bNil : List D → RS → Option RS := fun xs ρ => match xs with
  | [] => some ρ
  | _ => none
def bCons (b : BF) (bs : List D → RS → Option RS) : List D → RS → Option RS := fun xs ρ => match xs with
  | x :: r => (b x ρ).bind fun ρ1 => bs r ρ1
  | [] => none
def bTup (n : Nat) (bs : List D → RS → Option RS) : BF := fun x ρ => match x with
  | .tuple xs => if xs.length = n then bs xs ρ else none
  | _ => none
section
variable {X : Cx} {c : Ctx} {pos : Pos}
theorem dg_name {i : Nat} {x : Str} (h : PG X (.Name x pos) (gName i)) : DG X c [i] (.Name x pos) (bName i) := PG.imp h fun v σ H Q ⟨F, ρ, g, x, ρ', s, r, e, q⟩ => by
  cases e
  exact q _ (s.setD r i) ⟨by rw [List.length_set], fun j hj => by rw [List.getElem?_set_ne (fun z => hj (by rw [z]; exact List.mem_singleton.mpr rfl))]⟩
theorem dgs_nil : DGs X c [] [] bNil := PGs.imp pgs_nil fun v σ H Q ⟨F, ρ, g, xs, ρ', s, r, e, q⟩ => by
  cases xs with
  | cons _ _ => cases e
  | nil =>
    cases e
    cases r
    exact ⟨rfl, q _ s But.refl⟩
theorem dgs_cons {e : Expr} {es : List Expr} {b : BF} {bs : List D → RS → Option RS} {is js : List Nat} (h1 : DG X c is e b) (h2 : DGs X c js es bs) (hs : (assignEach (e :: es) X.env).map (·.2) = assign e X.env :: (assignEach es X.env).map (·.2) := by rfl) : DGs X c (is ++ js) (e :: es) (bCons b bs) :=
  PGs.imp (pgs_cons h1 h2 hs) fun v σ H Q ⟨F, ρ, g, xs, ρ', s, r, e, q⟩ => by
    cases xs with
    | nil => cases e
    | cons x xs =>
      cases r with
      | cons h t =>
        cases q1 : b x ρ with
        | none => simp only [bCons, q1] at e; cases e
        | some ρ1 =>
          simp only [bCons, q1] at e
          exact ⟨_, _, rfl, F, ρ, g, x, ρ1, s, .inl h, q1, fun σ1 s1 b1 => ⟨F, ρ1, g, xs, ρ', s1, t, e, fun σ2 s2 b2 => q σ2 s2 (b1.trans b2)⟩⟩
theorem dg_tup {es : List Expr} {k n : Nat} {bs : List D → RS → Option RS} (hK : c.K = X.K) (hc : X.calm = true) {is : List Nat} (h : DGs X c is es bs) (hn : (assignEach es X.env).length = n := by rfl) (hst : (assignEach es X.env).findIdx? (·.1) = none := by rfl) : DG X c is (.Tuple es k pos) (bTup n bs) :=
  PG.imp (pg_tup hc h hn hst) fun v σ H Q ⟨F, ρ, g, x, ρ', s, r, e, q⟩ => by
    cases x with
    | tuple xs =>
      obtain ⟨a, vs, rfl, h1, h2⟩ := r.tuple
      simp only [bTup] at e
      split at e
      · rename_i hl
        exact ⟨a, vs, rfl, by rw [← hK]; exact seqT_mono s.fh h1, by rw [h2.len]; exact hl, F, ρ, g, xs, ρ', s, h2, e, q⟩
      · cases e
    | _ => cases e
end
def PostO (c : Ctx) (σ : L2.St) (o : Out (List D)) (F H : Hp) (W : WX) (Q : VK) : Prop :=
  match o with
  | .ok ds g => ∀ p vs F' H', Ext c.sa c.sb F H F' H' → GOk c F' H' g → H' p = some (.lst vs) → F' p = none → H p = none → RqAll c.K F' vs ds → Q (.ref p) H'
  | .exc n fs g => ∀ C dx vs F' H', Ext c.sa c.sb F H F' H' → GOk c F' H' g → c.cl n = some C → H' dx = some (.xd vs) → FldR c F' vs fs → W (.ref C) (some dx) σ H'
  | .bad => False
abbrev OF' := RS → G → Out (List D)
def tEo (c : Ctx) (W : WX) (f : OF') : TE := fun σ H Q => ∃ F ρ g, SR c F H σ ρ g ∧ PostO c σ (f ρ g) F H W Q
abbrev DEo (X : Cx) (c : Ctx) (W : WX) (e : Expr) (f : OF') : Prop := PE X e (tEo c W f)
theorem PostO.up {c : Ctx} {σ : L2.St} {o : Out (List D)} {F H F' H' : Hp} {W : WX} {Q : VK} (h : PostO c σ o F H W Q) (e : Ext c.sa c.sb F H F' H') : PostO c σ o F' H' W Q := by
  cases o with
  | ok a g => exact fun p vs F1 H1 s k h1 h2 h3 => h p vs F1 H1 (e.trans s) k h1 h2 (by
      cases q : H p with
      | none => rfl
      | some o =>
        obtain ⟨o', q'⟩ := e.dom p o q
        rw [h3] at q'
        cases q')
  | exc n fs g => exact fun C dx vs F1 H1 s => h C dx vs F1 H1 (e.trans s)
  | bad => exact h
theorem PostO.bind {α β : Type} {c : Ctx} {σ : L2.St} {ρ : RS} {g0 : G} {R : Hp → β → α → Prop} {o : Out α} {k : α → G → Out (List D)} {F H : Hp} {W : WX} {Q : β → Hp → Prop} {Q' : VK}
    (s0 : SR c F H σ ρ g0) (h : PostO c σ (o.bind k) F H W Q') (q : ∀ a g b F1 H1, Ext c.sa c.sb F H F1 H1 → SR c F1 H1 σ ρ g → R F1 b a → PostO c σ (k a g) F1 H1 W Q' → Q b H1) : PostG c σ R o F H W Q := by
  cases o with
  | ok a g => exact fun b F1 H1 e gk r => q a g b F1 H1 e (s0.ext' e gk) r (PostO.up (show PostO c σ (k a g) F H W Q' from h) e)
  | exc n fs g => exact h
  | bad => exact h
theorem PostO.new {c : Ctx} {σ : L2.St} {ρ : RS} {g : G} {ds : List D} {F H : Hp} {W : WX} {Q : VK} (h : PostO c σ (.ok ds g) F H W Q) (s : SR c F H σ ρ g) {p : Addr} (n : H p = none) {vs : List V} (r : RqAll c.K F vs ds) : Q (.ref p) (upd H p (.lst vs)) :=
  h p vs F _ (Ext.newM s.fh n) (s.gok.newM n) upd_same (s.fnone n) n r
theorem PostO.ite {c : Ctx} {σ : L2.St} {p : Prop} [Decidable p] {o : Out (List D)} {F H : Hp} {W : WX} {Q : VK} (h : PostO c σ (if p then o else .bad) F H W Q) : p ∧ PostO c σ o F H W Q := by
  by_cases hp : p
  · rw [if_pos hp] at h; exact ⟨hp, h⟩
  · rw [if_neg hp] at h; exact h.elim
def eOf (f : OF') : EF := fun ρ g => (f ρ g).bind fun ds g1 => .ok (.list ds) g1
section
variable {X : Cx} {c : Ctx} {W : WX} {pos p : Pos} {a b e : Expr} {es : List Expr} {fs : AF} {fa fb fe : EF}
def oLst (fs : AF) : OF' := fun ρ g => (fs ρ g).bind fun xs g1 => if noTok xs = true ∧ xs.length ≤ LIM then .ok xs g1 else .bad
theorem o_lst (ha : DA X c W es fs) : DEo X c W (.List es pos) (oLst fs) :=
  PE.imp (pe_lst ha) fun σ H Q ⟨F, ρ, g, s, h⟩ => ⟨F, ρ, g, s, PostO.bind s h fun xs g1 vs F1 H1 e1 s1 r1 h1 => by
    obtain ⟨⟨h2, h3⟩, h1⟩ := h1.ite
    exact ⟨lim_ok (by rw [r1.length]; exact h3), fun p n => h1.new s1 n (r1.rq h2)⟩⟩
def oCat (fa fb : EF) : OF' := fun ρ g => (fa ρ g).bind fun x g1 => (fb ρ g1).bind fun y g2 => match x, y with
  | .list i, .list j => if i.length + j.length ≤ LIM then .ok (i ++ j) g2 else .bad
  | _, _ => .bad
theorem o_cat (ha : DE X c W a fa) (hb : DE X c W b fb) : DEo X c W (.BinOp a .Add b pos) (oCat fa fb) :=
  PE.imp (pe_op op_cat ha hb) fun σ H Q ⟨F, ρ, g, s, h⟩ => ⟨F, ρ, g, s, PostO.bind s h fun x g1 v F1 H1 e1 s1 r1 h1 => ⟨F1, ρ, g1, s1, PostO.bind s1 h1 fun y g2 u F2 H2 e2 s2 r2 h2 => by
    split at h2
    · obtain ⟨a, vs, rfl, q1, q2⟩ := (r1.mono e2.f).list
      obtain ⟨b, ws, rfl, q3, q4⟩ := r2.list
      obtain ⟨hl, h2⟩ := h2.ite
      exact ⟨a, b, vs, ws, rfl, rfl, s2.fh _ _ q1, s2.fh _ _ q3, lim_ok (by rw [q2.len, q4.len]; exact hl), fun p n => h2.new s2 n (q2.append q4)⟩
    · exact h2.elim⟩⟩
def oRep (fa fb : EF) : OF' := fun ρ g => (fa ρ g).bind fun x g1 => (fb ρ g1).bind fun y g2 => match x, y with
  | .list xs, .int k => if k ≤ LIM ∧ -(2 ^ 62) ≤ k ∧ xs.length * k.toNat ≤ LIM then .ok (List.replicate k.toNat xs).flatten g2 else .bad
  | _, _ => .bad
theorem o_rep (ha : DE X c W a fa) (hb : DE X c W b fb) : DEo X c W (.BinOp a .Mult b pos) (oRep fa fb) :=
  PE.imp (pe_op op_rep ha hb) fun σ H Q ⟨F, ρ, g, s, h⟩ => ⟨F, ρ, g, s, PostO.bind s h fun x g1 v F1 H1 e1 s1 r1 h1 => ⟨F1, ρ, g1, s1, PostO.bind s1 h1 fun y g2 u F2 H2 e2 s2 r2 h2 => by
    split at h2
    · obtain ⟨a, vs, rfl, q1, q2⟩ := (r1.mono e2.f).list
      cases r2.int
      obtain ⟨⟨hl1, hl2, hl3⟩, h2⟩ := h2.ite
      have hl1' : _ ≤ (1000000 : Int) := hl1
      exact ⟨a, _, vs, rfl, rfl, s2.fh _ _ q1, by omega, by omega, lim_ok (by rw [q2.len]; exact hl3), fun p n => h2.new s2 n (q2.rep _)⟩
    · exact h2.elim⟩⟩
def oSl (fa : EF) (fl fh : OF) : OF' := fun ρ g => (fa ρ g).bind fun x g1 => (fl ρ g1).bind fun lo g2 => (fh ρ g2).bind fun hi g3 => match x with
  | .list xs => .ok (cutD xs lo hi) g3
  | _ => .bad
theorem o_sl {lo hi : Option Expr} {fl fh : OF} {p2 : Pos} (ha : DE X c W a fa) (hl : DO X c W lo fl) (hh : DO X c W hi fh) : DEo X c W (.Subscript a (.Slice lo hi none p2) pos) (oSl fa fl fh) :=
  PE.imp (pe_slice sl_list ha hl hh) fun σ H Q ⟨F, ρ, g, s, h⟩ => ⟨F, ρ, g, s, PostO.bind s h fun x g1 v F1 H1 e1 s1 r1 h1 => ⟨F1, ρ, g1, s1, PostO.bind s1 h1 fun l g2 u F2 H2 e2 s2 r2 h2 => ⟨F2, ρ, g2, s2, PostO.bind s2 h2 fun hv g3 w F3 H3 e3 s3 r3 h3 => by
    cases r2
    cases r3
    cases x with
    | list xs =>
      obtain ⟨p, vs, rfl, q1, q2⟩ := ((r1.mono e2.f).mono e3.f).list
      exact ⟨p, vs, rfl, SqL.of (s3.fh _ _ q1), fun q n => h3.new s3 n (cut_rq q2 _ _)⟩
    | _ => exact h3.elim⟩⟩⟩
def oList (fs : AF) : OF' := fun ρ g => (fs ρ g).bind fun ds g1 => match ds with
  | [.list xs] => .ok xs g1
  | [.tuple xs] => .ok xs g1
  | _ => .bad
theorem o_list (hK : c.K = X.K) (hg : Gl X "list") (hm : X.mg "list" = none) (ha : DA X c W (e :: es) fs)
    (he : starEach (e :: es) X.env = (false, eval e X.env) :: starEach es X.env := by rfl) (hpl : (backTo pos (starEach es X.env)).any (·.1) = false := by rfl) : DEo X c W (.Call (.Name "list" p) (e :: es) [] pos) (oList fs) :=
  PE.imp (pe_callTy call_list_of hg hm (by decide +kernel) ha (by decide) (by decide) he hpl) fun σ H Q ⟨F, ρ, g, s, h⟩ => ⟨F, ρ, g, s, PostO.bind s h fun ds g1 vs F1 H1 e1 s1 r1 h1 => by
    split at h1
    · obtain ⟨v, rfl, rv⟩ := rep1 r1
      obtain ⟨a, vs, rfl, q1, q2⟩ := rv.list
      exact ⟨a, vs, rfl, .inl (SqL.of (s1.fh _ _ q1)), fun p n => h1.new s1 n q2⟩
    · obtain ⟨v, rfl, rv⟩ := rep1 r1
      obtain ⟨a, vs, rfl, q1, q2⟩ := rv.tuple
      exact ⟨a, vs, rfl, .inr (by rw [← hK]; exact seqT_mono s1.fh q1), fun p n => h1.new s1 n q2⟩
    · exact h1.elim⟩
end
abbrev W0 : WX := fun _ _ _ _ => False
def compF (b : BF) (ft : TF) (fe : EF) (ρ : RS) : List D → G → Out (List D)
  | [], g => .ok [] g
  | x :: xs, g => match b x ρ with
    | none => .bad
    | some ρ1 => match ft ρ1 g with
      | .ok true g1 => (match fe ρ1 g1 with
        | .ok d g2 => if noTok [d] = true then (compF b ft fe ρ xs g2).bind fun r g3 => .ok (d :: r) g3 else .bad
        | _ => .bad)
      | .ok false g1 => compF b ft fe ρ xs g1
      | _ => .bad
def oComp (vs : List Nat) (fi : LF) (b : BF) (ft : TF) (fe : EF) : OF' := fun ρ g => (fi ρ g).bind fun items g1 => if items.length ≤ LIM then compF b ft fe (wipeR ρ vs) items g1 else .bad
def tts (c : Ctx) (W : WX) (f : TF) : TT := tT c W f
def tYesF : TF := fun _ g => .ok true g
section
variable {X : Cx} {c : Ctx} {W : WX} {pos p : Pos} {tg iter elt e : Expr} {ifs : List Expr} {scope : Scope} {own : List (Str × Nat)} {fi : LF} {b : BF} {ft : TF} {fe : EF}
theorem dts_nil : PTs X [] (tT c W tYesF) := by
  have h := @pts_nil X
  exact ⟨fun pins s σ H Q I ⟨F, ρ, g, sr, q⟩ => h.run pins s σ H Q I (q.now sr rfl)⟩
theorem dts_one (h : DT X c W e ft) : PTs X [e] (tT c W ft) := pts_one h
theorem PostG.none {α β : Type} {c : Ctx} {σ : L2.St} {R : Hp → β → α → Prop} {o : Out α} {F H : Hp} {Q : β → Hp → Prop} (h : match o with | .ok a g => ∀ b F' H', Ext c.sa c.sb F H F' H' → GOk c F' H' g → R F' b a → Q b H' | _ => False) : PostG c σ R o F H W0 Q := by
  cases o with
  | ok a g => exact h
  | exc n fs g => exact h.elim
  | bad => exact h
structure Mid (c : Ctx) (F1 H1 F H : Hp) (g : G) (A : Addr) (acc : List D) (full : Out (List D)) (rest : Out (List D)) (va : List V) : Prop where
  ext : Ext c.sa c.sb F1 H1 F H
  gok : GOk c F H g
  ha : H A = some (.lst va)
  fa : F A = none
  rq : RqAll c.K F va acc
  eq : full = rest.bind fun r g => .ok (acc ++ r) g
theorem wipe_in {σ : L2.St} {i : Nat} : ∀ {vs : List Nat}, i ∈ vs → i < σ.length → (L2.wipe σ vs)[i]? = some none
  | v :: vs, h, hl => by
    unfold L2.wipe
    by_cases e : v = i
    · subst e
      rw [List.getElem?_set_self (by rw [L2.wipe_length]; exact hl)]
    · rw [List.getElem?_set_ne e]
      exact wipe_in ((List.mem_cons.mp h).resolve_left fun z => e z.symm) hl
theorem But.wipe {is vs : List Nat} {σ σ2 : L2.St} (h : But is (L2.wipe σ vs) σ2) (sub : ∀ i ∈ is, i ∈ vs) : L2.wipe σ2 vs = L2.wipe σ vs := by
  refine List.ext_getElem? fun j => ?_
  by_cases hj : j ∈ vs
  · by_cases hl : j < σ.length
    · rw [wipe_in hj hl, wipe_in hj (by rw [h.1, L2.wipe_length]; exact hl)]
    · have l1 : (L2.wipe σ2 vs).length = σ.length := by rw [L2.wipe_length, h.1, L2.wipe_length]
      have l2 : (L2.wipe σ vs).length = σ.length := L2.wipe_length _ _
      rw [List.getElem?_eq_none (by omega), List.getElem?_eq_none (by omega)]
  · rw [L2.wipe_out hj]
    exact h.2 j fun z => hj (sub j z)
theorem lc_post {σ : L2.St} {ρ : RS} {items : List D} {vs is : List Nat} {F1 H1 : Hp} {g1 : G} {W : WX} {Q : VK} {J : It} {A : Addr} (s1 : SR c F1 H1 σ ρ g1) (hJ : IterR c F1 J items) (hl : items.length ≤ LIM) (nA : H1 A = none) (sub : ∀ i ∈ is, i ∈ vs)
    (h : PostO c σ (compF b ft fe (wipeR ρ vs) items g1) F1 H1 W Q) :
    ∃ Wv : Nat → Nat → Hp → Prop, (∃ m, Wv 0 m (upd H1 A (.lst []))) ∧ ∀ i m H, Wv i m H → (J.stop i H ∧ Q (.ref A) H) ∨ (J.go i H ∧ ∃ Nx : Hp → Prop, (∀ H', Nx H' → ∃ m', m' < m ∧ Wv (i + 1) m' H') ∧ ∀ x H', J.yld i H x H' → tG c is b x (wipe σ vs) H' fun σ2 H2 => wipe σ2 vs = wipe σ vs ∧ tT c W0 ft σ2 H2 fun k H3 =>
      if k = true then tE c W0 fe σ2 H3 fun y H4 => ∃ acc, H4 A = some (.lst acc) ∧ acc.length < sizeLine ∧ Nx (upd H4 A (.lst (acc ++ [y]))) else Nx H3) := by
  refine ⟨fun i m H => ∃ F g va acc, m = items.length - i ∧ i ≤ items.length ∧ acc.length ≤ i ∧ Mid c F1 H1 F H g A acc (compF b ft fe (wipeR ρ vs) items g1) (compF b ft fe (wipeR ρ vs) (items.drop i) g) va,
    ⟨items.length, F1, g1, [], [], by omega, Nat.zero_le _, Nat.zero_le _, Ext.newM s1.fh nA, s1.gok.newM nA, upd_same, s1.fnone nA, .nil, ?_⟩, ?_⟩
  · rw [List.drop_zero]
    cases compF b ft fe (wipeR ρ vs) items g1 <;> rfl
  rintro i m H ⟨F, g, va, acc, rfl, hi, hacc, M⟩
  have sm : Same F1 H := M.ext.f.trans M.ext.fh
  by_cases hlt : i < items.length
  · have hd : items[i]? = some items[i] := List.getElem?_eq_getElem hlt
    have hdr : items.drop i = items[i] :: items.drop (i + 1) := List.drop_eq_getElem_cons hlt
    obtain ⟨go, yl⟩ := (hJ i H sm).1 _ hd
    have eq := M.eq
    rw [hdr] at eq
    refine .inr ⟨go, _, fun H' h => h, fun x H' y => ?_⟩
    obtain ⟨rfl, rx⟩ := yl x H' y
    have sw : SR c F H' (wipe σ vs) (wipeR ρ vs) g := (s1.wipe vs).ext' M.ext M.gok
    have nas : A ≠ c.sa := (ne_of_none s1.gok.ha nA).symm
    have nab : A ≠ c.sb := (ne_of_none s1.gok.hb nA).symm
    simp only [compF] at eq
    cases hb : b items[i] (wipeR ρ vs) with
    | none => simp only [hb, Out.bind] at eq; rw [eq] at h; exact h.elim
    | some ρ1 =>
      simp only [hb] at eq
      refine ⟨F, wipeR ρ vs, g, items[i], ρ1, sw, rx.mono M.ext.f, hb, fun σ2 s2 b2 => ⟨b2.wipe sub, F, ρ1, g, s2, ?_⟩⟩
      cases ht : ft ρ1 g with
      | bad => simp only [ht, Out.bind] at eq; rw [eq] at h; exact h.elim
      | exc n fs g2 => simp only [ht, Out.bind] at eq; rw [eq] at h; exact h.elim
      | ok k g2 =>
        intro k' F2 H2 e2 gk2 rk
        cases rk
        have s3 := s2.ext' e2 gk2
        have hA2 : H2 A = some (.lst va) := e2.keep A _ M.ha nas nab
        have fA2 : F2 A = none := by rw [e2.ff A _ M.ha]; exact M.fa
        cases k with
        | false =>
          simp only [ht] at eq
          rw [if_neg Bool.false_ne_true]
          exact ⟨items.length - (i + 1), by omega, F2, g2, va, acc, rfl, hlt, by omega, M.ext.trans e2, gk2, hA2, fA2, RqAll_mono e2.f _ _ M.rq, eq⟩
        | true =>
          simp only [ht] at eq
          rw [if_pos rfl]
          refine ⟨F2, ρ1, g2, s3, ?_⟩
          cases he : fe ρ1 g2 with
          | bad => simp only [he, Out.bind] at eq; rw [eq] at h; exact h.elim
          | exc n fs g3 => simp only [he, Out.bind] at eq; rw [eq] at h; exact h.elim
          | ok d g3 =>
            simp only [he] at eq
            intro y F3 H3 e3 gk3 ry
            have hA3 : H3 A = some (.lst va) := e3.keep A _ hA2 nas nab
            have fA3 : F3 A = none := by rw [e3.ff A _ hA2]; exact fA2
            by_cases hn : noTok [d] = true
            · rw [if_pos hn] at eq
              refine ⟨va, hA3, lim_lt (by rw [M.rq.len]; omega), items.length - (i + 1), by omega, F3, g3, va ++ [y], acc ++ [d], rfl, hlt, by rw [List.length_append, List.length_singleton]; omega, ?_, ?_, upd_same, fA3, ?_, ?_⟩
              · have e4 := (M.ext.trans e2).trans e3
                refine ⟨e4.f, fun q o z => ?_, fun q o z n m => ?_, fun q o z => ?_, e4.ff⟩
                · rw [upd_ne (ne_of_none z fA3)]; exact e4.fh q o z
                · rw [upd_ne (ne_of_none z nA)]; exact e4.keep q o z n m
                · rw [upd_ne (ne_of_none z nA)]; exact e4.dom q o z
              · exact gk3.ext rfl rfl (upd_ne nas.symm) (upd_ne nab.symm)
              · have rd := RepAll.rq (RepAll.cons ry .nil) hn
                exact (RqAll_mono (e2.f.trans e3.f) _ _ M.rq).append rd
              · rw [eq]
                cases compF b ft fe (wipeR ρ vs) (items.drop (i + 1)) g3 with
                | bad => rfl
                | exc n fs g4 => rfl
                | ok r g4 => simp only [Out.bind, List.append_assoc, List.singleton_append]
            · rw [if_neg hn] at eq
              simp only [Out.bind] at eq
              rw [eq] at h
              exact h.elim
  · have e : i = items.length := by omega
    have eq := M.eq
    rw [e, List.drop_length] at eq
    simp only [compF, Out.bind, List.append_nil] at eq
    rw [eq] at h
    exact .inl ⟨(hJ i H sm).2 (by omega), h A va F H M.ext M.gok M.ha M.fa nA M.rq⟩
theorem lc_imp {is : List Nat} (sub : ∀ i ∈ is, i ∈ own.map (·.2)) (σ : L2.St) (H : Hp) (Q : VK) (w : tEo c W (oComp (own.map (·.2)) fi b ft fe) σ H Q) : tLc (tI c W fi) (tG c is b) (tT c W0 ft) (tE c W0 fe) (own.map (·.2)) σ H Q := by
  obtain ⟨F, ρ, g, s, h⟩ := w
  exact ⟨F, ρ, g, s, PostO.bind s h fun items g1 J F1 H1 e1 s1 r1 h1 => by
    obtain ⟨hl, h1⟩ := h1.ite
    exact fun A nA => lc_post s1 r1 hl nA sub h1⟩
theorem o_lc {is : List Nat} (hc : X.calm = true) (hN : X.N.Nodup) (hi : DI X c W tg iter fi) (ok : BlkOk X.N X.env.scope scope own) (sub : ∀ i ∈ is, i ∈ own.map (·.2))
    (hg : ∀ (s : Shared) (H : Hp) (C : Addr) (cl : List (Str × Addr)) (fp : List Addr), DG (X.blk s H scope (compEnvC scope cl C X.env) fp) c is tg b) (ht : ∀ (s : Shared) (H : Hp) (C : Addr) (cl : List (Str × Addr)) (fp : List Addr), PTs (X.blk s H scope (compEnvC scope cl C X.env) fp) ifs (tT c W0 ft))
    (he : ∀ (s : Shared) (H : Hp) (C : Addr) (cl : List (Str × Addr)) (fp : List Addr), DE (X.blk s H scope (compEnvC scope cl C X.env) fp) c W0 elt fe) (hs : ∀ x, foldedSetIterable iter X.env x = pure x := by intro _; rfl) :
    DEo X c W (.ListComp elt [⟨tg, iter, ifs, 0⟩] scope pos) (oComp (own.map (·.2)) fi b ft fe) :=
  PE.imp (pe_lc hc hN hi ok hg ht he hs) (lc_imp sub)
theorem of_imp {f : OF'} (σ : L2.St) (H : Hp) (Q : VK) (w : tE c W (eOf f) σ H Q) : tEo c W f σ H Q := by
  obtain ⟨F, ρ, g, s, h⟩ := w
  refine ⟨F, ρ, g, s, ?_⟩
  unfold eOf at h
  cases q : f ρ g with
  | bad => rw [q] at h; exact h
  | exc n fs g1 => rw [q] at h; exact h
  | ok ds g1 =>
    rw [q] at h
    intro p vs F' H' e gk h1 h2 h3 h4
    have sm : Same F' (upd F' p (.lst vs)) := fun b o q => by rw [upd_ne (ne_of_none q h2)]; exact q
    have n1 : c.sa ≠ p := ne_of_none s.gok.ha h3
    have n2 : c.sb ≠ p := ne_of_none s.gok.hb h3
    refine h (.ref p) (upd F' p (.lst vs)) H' ⟨e.f.trans sm, fun b o q => ?_, e.keep, e.dom, fun b o q => ?_⟩ (gk.ext (upd_ne n1) (upd_ne n2) rfl rfl) (.inl (.lst upd_same (RqAll_mono sm _ _ h4)))
    · by_cases hb : b = p
      · subst hb; rw [upd_same] at q; cases q; exact h1
      · rw [upd_ne hb] at q; exact e.fh b o q
    · rw [upd_ne (ne_of_none q h3)]; exact e.ff b o q
theorem d_ofO {f : OF'} (h : DEo X c W e f) : DE X c W e (eOf f) := PE.imp h of_imp
end
end DL
namespace DL
open PySem
open PySem.Spec
open PyProof.Rows
open L2
def SPost (c : Ctx) (o : SO) (F : Hp) (W : WX) (E : Ends) : Prop := match o with
  | .nx ρ g => ∀ σ' F' H', Same F F' → SR c F' H' σ' ρ g → E.nx σ' H'
  | .rt d g => ∀ σ' ρ' v F' H', Same F F' → SR c F' H' σ' ρ' g → Rep c F' v d → E.rt v H'
  | .bk ρ g => ∀ σ' F' H', Same F F' → SR c F' H' σ' ρ g → E.bk σ' H'
  | .ct ρ g => ∀ σ' F' H', Same F F' → SR c F' H' σ' ρ g → E.ct σ' H'
  | .exc n fs ρ g => ∀ C dx vs σ' F' H', Same F F' → SR c F' H' σ' ρ g → c.cl n = some C → H' dx = some (.xd vs) → FldR c F' vs fs → W (.ref C) (some dx) σ' H'
  | .bad => False
theorem SPost.up {c : Ctx} {o : SO} {F F' : Hp} {W : WX} {E : Ends} (h : SPost c o F W E) (e : Same F F') : SPost c o F' W E := by
  cases o with
  | nx ρ g => exact fun σ1 F1 H1 s => h σ1 F1 H1 (e.trans s)
  | rt d g => exact fun σ1 ρ1 v F1 H1 s => h σ1 ρ1 v F1 H1 (e.trans s)
  | bk ρ g => exact fun σ1 F1 H1 s => h σ1 F1 H1 (e.trans s)
  | ct ρ g => exact fun σ1 F1 H1 s => h σ1 F1 H1 (e.trans s)
  | exc n fs ρ g => exact fun C dx vs σ1 F1 H1 s => h C dx vs σ1 F1 H1 (e.trans s)
  | bad => exact h
def tS (c : Ctx) (W : WX) (f : SF) : TS := fun E σ H => ∃ F ρ g, SR c F H σ ρ g ∧ SPost c (f ρ g) F W E
abbrev DS (X : Cx) (c : Ctx) (W : WX) (st : Stmt) (f : SF) : Prop := PS X st (tS c W f)
abbrev DSs (X : Cx) (c : Ctx) (W : WX) (sts : List Stmt) (f : SF) : Prop := PSs X sts (tS c W f)
theorem go_post {α β : Type} {c : Ctx} {σ : L2.St} {ρ : RS} {g0 : G} {R : Hp → β → α → Prop} {o : Out α} {k : α → G → SO} {F H : Hp} {W : WX} {Q : β → Hp → Prop} {E : Ends}
    (s0 : SR c F H σ ρ g0) (h : SPost c (o.go ρ k) F W E) (q : ∀ a g b F1 H1, Ext c.sa c.sb F H F1 H1 → SR c F1 H1 σ ρ g → R F1 b a → SPost c (k a g) F1 W E → Q b H1) : PostG c σ R o F H W Q := by
  cases o with
  | ok a g => exact fun b F1 H1 e gk r => q a g b F1 H1 e (s0.ext' e gk) r (SPost.up (show SPost c (k a g) F W E from h) e.f)
  | exc n fs g => exact fun C dx vs F1 H1 e gk hc hd hf => h C dx vs σ F1 H1 e.f (s0.ext' e gk) hc hd hf
  | bad => exact h
theorem go_postO {c : Ctx} {σ : L2.St} {ρ : RS} {g0 : G} {o : Out (List D)} {k : List D → G → SO} {F H : Hp} {W : WX} {Q : VK} {E : Ends}
    (s0 : SR c F H σ ρ g0) (h : SPost c (o.go ρ k) F W E) (q : ∀ ds g p vs F1 H1, Ext c.sa c.sb F H F1 H1 → SR c F1 H1 σ ρ g → H1 p = some (.lst vs) → F1 p = none → H p = none → RqAll c.K F1 vs ds → SPost c (k ds g) F1 W E → Q (.ref p) H1) : PostO c σ o F H W Q := by
  cases o with
  | ok a g => exact fun p vs F1 H1 e gk h1 h2 h3 h4 => q a g p vs F1 H1 e (s0.ext' e gk) h1 h2 h3 h4 (SPost.up (show SPost c (k a g) F W E from h) e.f)
  | exc n fs g => exact fun C dx vs F1 H1 e gk hc hd hf => h C dx vs σ F1 H1 e.f (s0.ext' e gk) hc hd hf
  | bad => exact h
theorem SPost.nx' {c : Ctx} {ρ : RS} {g : G} {F H : Hp} {W : WX} {E : Ends} {σ : L2.St} (h : SPost c (.nx ρ g) F W E) (s : SR c F H σ ρ g) : E.nx σ H := h σ F H (Same.refl F) s
def sNil : SF := fun ρ g => .nx ρ g
def sSeq (f k : SF) : SF := fun ρ g => match f ρ g with
  | .nx ρ' g' => k ρ' g'
  | o => o
section
variable {X : Cx} {c : Ctx} {W : WX} {pos : Pos} {e : Expr} {fe : EF} {st : Stmt} {sts : List Stmt} {f k : SF} {tb : TF}
theorem dss_nil : DSs X c W [] sNil := PSs.imp pss_nil fun E σ H ⟨F, ρ, g, s, h⟩ => h.nx' s
theorem seq_post {c : Ctx} {o : SO} {k : SF} {F : Hp} {W : WX} {E : Ends} (h : SPost c (match o with | .nx ρ' g' => k ρ' g' | o => o) F W E) : SPost c o F W { E with nx := tS c W k E } := by
  cases o with
  | nx ρ g => exact fun σ1 F1 H1 s sr => ⟨F1, ρ, g, sr, SPost.up h s⟩
  | rt d g => exact h
  | bk ρ g => exact h
  | ct ρ g => exact h
  | exc n fs ρ g => exact h
  | bad => exact h
theorem dss_cons (h1 : DS X c W st f) (h2 : DSs X c W sts k) : DSs X c W (st :: sts) (sSeq f k) := PSs.imp (pss_cons h1 h2) fun E σ H ⟨F, ρ, g, s, h⟩ => ⟨F, ρ, g, s, seq_post h⟩
theorem dss_one (h1 : DS X c W st f) : DSs X c W [st] f := pss_one h1
theorem ds_pass : DS X c W (.Pass pos) sNil := PS.imp ps_pass fun E σ H ⟨F, ρ, g, s, h⟩ => h.nx' s
def sBrk : SF := fun ρ g => .bk ρ g
def sCnt : SF := fun ρ g => .ct ρ g
theorem ds_break : DS X c W (.Break pos) sBrk := PS.imp ps_break fun E σ H ⟨F, ρ, g, s, h⟩ => h σ F H (Same.refl F) s
theorem ds_continue : DS X c W (.Continue pos) sCnt := PS.imp ps_continue fun E σ H ⟨F, ρ, g, s, h⟩ => h σ F H (Same.refl F) s
def sExpr (fe : EF) : SF := fun ρ g => (fe ρ g).go ρ fun _ g1 => .nx ρ g1
theorem ds_expr (he : DE X c W e fe) (hs : swapsWith e none pos.line X.env = pure false := by rfl) : DS X c W (.Expr e pos) (sExpr fe) := PS.imp (ps_expr he hs) fun E σ H ⟨F, ρ, g, s, h⟩ => ⟨F, ρ, g, s, go_post s h fun x g1 v F1 H1 e1 s1 r1 h1 => h1.nx' s1⟩
def sRet (fe : EF) : SF := fun ρ g => (fe ρ g).go ρ fun d g1 => .rt d g1
theorem ds_ret (he : DE X c W e fe) : DS X c W (.Return (some e) pos) (sRet fe) := PS.imp (ps_ret he) fun E σ H ⟨F, ρ, g, s, h⟩ => ⟨F, ρ, g, s, go_post s h fun x g1 v F1 H1 e1 s1 r1 h1 => h1 σ ρ v F1 H1 (Same.refl _) s1 r1⟩
def sRetN : SF := fun _ g => .rt .none g
theorem ds_retN : DS X c W (.Return none pos) sRetN := PS.imp ps_retN fun E σ H ⟨F, ρ, g, s, h⟩ => h σ ρ .non F H (Same.refl _) s rNon
def sIf (t : TF) (f k : SF) : SF := fun ρ g => (t ρ g).go ρ fun b g1 => if b = true then f ρ g1 else k ρ g1
theorem ds_if {a b : List Stmt} (ht : DT X c W e tb) (ha : DSs X c W a f) (hb : DSs X c W b k) : DS X c W (.If e a b pos) (sIf tb f k) := PS.imp (ps_if ht ha hb) fun E σ H ⟨F, ρ, g, s, h⟩ => ⟨F, ρ, g, s, go_post s h fun x g1 v F1 H1 e1 s1 r1 h1 => by
  cases r1
  cases x with
  | true => exact ⟨F1, ρ, g1, s1, h1⟩
  | false => exact ⟨F1, ρ, g1, s1, h1⟩⟩
def sSet (i : Nat) (fe : EF) : SF := fun ρ g => (fe ρ g).go ρ fun d g1 => .nx (ρ.set i (.d d)) g1
theorem ds_set {i : Nat} (h : PS X st (tAsg (tE c W fe) (gName i))) : DS X c W st (sSet i fe) := PS.imp h fun E σ H ⟨F, ρ, g, s, h⟩ => ⟨F, ρ, g, s, go_post s h fun x g1 v F1 H1 e1 s1 r1 h1 => h1.nx' (s1.setD r1 i)⟩
def sSetO (i : Nat) (fo : OF') : SF := fun ρ g => (fo ρ g).go ρ fun ds g1 => .nx (ρ.set i (.own ds)) g1
theorem ds_setO {i : Nat} {fo : OF'} (h : PS X st (tAsg (tEo c W fo) (gName i))) : DS X c W st (sSetO i fo) := PS.imp h fun E σ H ⟨F, ρ, g, s, h⟩ => ⟨F, ρ, g, s, go_postO s h fun ds g1 p vs F1 H1 e1 s1 q1 q2 q3 q4 h1 => by
  refine h1.nx' (s1.setO q1 q2 ?_ q4 (fun j ys hj hp => ?_) i)
  · cases z : c.H0 p with
    | none => rfl
    | some o =>
      obtain ⟨o', z'⟩ := s.ext.dom p o z
      rw [q3] at z'
      cases z'
  · obtain ⟨a, vs', k1, k2, _⟩ := s.own hj
    rw [hp] at k1
    cases k1
    rw [q3] at k2
    cases k2⟩
def sAsg (b : BF) (fe : EF) : SF := fun ρ g => (fe ρ g).go ρ fun d g1 => match b d ρ with
  | some ρ' => .nx ρ' g1
  | none => .bad
theorem ds_asg {tg : Expr} {is : List Nat} {b : BF} (he : DE X c W e fe) (hg : DG X c is tg b) (hs : swapsWithSole [tg] e pos.line X.env = pure false := by rfl) (hw : swappedStores [tg] e X.env = pure none := by rfl)
    (h1 : (assignEach [tg] X.env).map (·.2) = [assign tg X.env] := by rfl) : DS X c W (.Assign [tg] e pos) (sAsg b fe) := PS.imp (ps_asg he hg hs hw h1) fun E σ H ⟨F, ρ, g, s, h⟩ => ⟨F, ρ, g, s, go_post s h fun x g1 v F1 H1 e1 s1 r1 h1 => by
  cases q : b x ρ with
  | none => simp only [q] at h1; exact h1.elim
  | some ρ' =>
    simp only [q] at h1
    exact ⟨F1, ρ, g1, x, ρ', s1, r1, q, fun σ2 s2 _ => h1.nx' s2⟩⟩
def sPar (i j : Nat) (fs : AF) : SF := fun ρ g => (fs ρ g).go ρ fun ds g1 => match ds with
  | [x, y] => .nx ((ρ.set i (.d x)).set j (.d y)) g1
  | _ => .bad
theorem ds_par {i j : Nat} {fs : AF} (h : PS X st (tPar i j (tAr c W fs))) : DS X c W st (sPar i j fs) := PS.imp h fun E σ H ⟨F, ρ, g, s, h⟩ => ⟨F, ρ, g, s, go_post s h fun ds g1 vs F1 H1 e1 s1 r1 h1 => by
  split at h1
  · obtain ⟨v, v', rfl, rv, rv'⟩ := rep2 r1
    exact ⟨v, v', rfl, h1.nx' ((s1.setD rv i).setD rv' j)⟩
  · exact h1.elim⟩
theorem rep3 {c : Ctx} {F : Hp} {vs : List V} {d d' d'' : D} (h : RepAll c F vs [d, d', d'']) : ∃ v v' v'', vs = [v, v', v''] ∧ Rep c F v d ∧ Rep c F v' d' ∧ Rep c F v'' d'' := by
  cases h with
  | cons h t => cases t with
    | cons h' t => cases t with
      | cons h'' t => cases t; exact ⟨_, _, _, rfl, h, h', h''⟩
def sPar3 (i j l : Nat) (fs : AF) : SF := fun ρ g => (fs ρ g).go ρ fun ds g1 => match ds with
  | [x, y, z] => .nx (((ρ.set i (.d x)).set j (.d y)).set l (.d z)) g1
  | _ => .bad
theorem ds_par3 {i j l : Nat} {fs : AF} (h : PS X st (tPar3 i j l (tAr c W fs))) : DS X c W st (sPar3 i j l fs) := PS.imp h fun E σ H ⟨F, ρ, g, s, h⟩ => ⟨F, ρ, g, s, go_post s h fun ds g1 vs F1 H1 e1 s1 r1 h1 => by
  split at h1
  · obtain ⟨v, v', v'', rfl, rv, rv', rv''⟩ := rep3 r1
    exact ⟨v, v', v'', rfl, h1.nx' (((s1.setD rv i).setD rv' j).setD rv'' l)⟩
  · exact h1.elim⟩
def sAug (i : Nat) (φ : Int → Int → Int) (fe : EF) : SF := fun ρ g => match ρ[i]? with
  | some (.d (.int a)) => (fe ρ g).go ρ fun d g1 => match d with
    | .int b => .nx (ρ.set i (.d (.int (φ a b)))) g1
    | _ => .bad
  | _ => .bad
theorem ds_aug {i : Nat} {φ : Int → Int → Int} (h : PS X st (tAug i (tE c W fe) (ipI φ))) : DS X c W st (sAug i φ fe) := PS.imp h fun E σ H ⟨F, ρ, g, s, h⟩ => by
  unfold sAug at h
  split at h
  · rename_i a hi
    obtain ⟨v, hv, rv⟩ := s.slots i _ hi
    cases rv.int
    refine ⟨_, hv, F, ρ, g, s, go_post s h fun x g1 v F1 H1 e1 s1 r1 h1 => ?_⟩
    cases x with
    | int b => cases r1.int; exact ⟨a, b, rfl, rfl, h1.nx' (s1.setD rInt i)⟩
    | _ => exact h1.elim
  · exact h.elim
def sApp (i : Nat) (fe : EF) : SF := fun ρ g => match ρ[i]? with
  | some (.own xs) => (fe ρ g).go ρ fun d g1 => if xs.length < LIM ∧ noTok [d] = true then .nx (ρ.set i (.own (xs ++ [d]))) g1 else .bad
  | _ => .bad
theorem SPost.ite {c : Ctx} {p : Prop} [Decidable p] {o : SO} {F : Hp} {W : WX} {E : Ends} (h : SPost c (if p then o else .bad) F W E) : p ∧ SPost c o F W E := by
  by_cases hp : p
  · rw [if_pos hp] at h; exact ⟨hp, h⟩
  · rw [if_neg hp] at h; exact h.elim
theorem ds_app {i : Nat} (h : PS X st (tDrop (tBM X.K "list" rAppend (tVar i) (tCons (tE c W fe) tNil)))) : DS X c W st (sApp i fe) := PS.imp h fun E σ H ⟨F, ρ, g, s, h⟩ => by
  unfold sApp at h
  split at h
  · rename_i xs hi
    obtain ⟨a, vs, k1, k2, k3, k4, k5⟩ := s.own hi
    refine ⟨_, k1, .inl ⟨rfl, vs, SqL.of k2⟩, F, ρ, g, s, go_post s h fun x g1 v F1 H1 e1 s1 r1 h1 => ?_⟩
    obtain ⟨⟨hl, hn⟩, h1⟩ := h1.ite
    obtain ⟨a', vs', m1, m2, m3, m4, m5⟩ := s1.own hi
    rw [k1] at m1
    cases m1
    exact ⟨a, vs', v, rfl, rfl, m2, lim_lt (by rw [m3.len]; exact hl), h1.nx' (s1.updO hi k1 m2 m4 m5 (m3.append (RepAll.rq (.cons r1 .nil) hn)))⟩
  · exact h.elim
def sExt (i : Nat) (fe : EF) : SF := fun ρ g => match ρ[i]? with
  | some (.own xs) => (fe ρ g).go ρ fun d g1 => match d with
    | .list ys => if xs.length + ys.length ≤ LIM then .nx (ρ.set i (.own (xs ++ ys))) g1 else .bad
    | _ => .bad
  | _ => .bad
theorem ds_ext {i : Nat} (h : PS X st (tDrop (tBM X.K "list" rExtend (tVar i) (tCons (tE c W fe) tNil)))) : DS X c W st (sExt i fe) := PS.imp h fun E σ H ⟨F, ρ, g, s, h⟩ => by
  unfold sExt at h
  split at h
  · rename_i xs hi
    obtain ⟨a, vs, k1, k2, k3, k4, k5⟩ := s.own hi
    refine ⟨_, k1, .inl ⟨rfl, vs, SqL.of k2⟩, F, ρ, g, s, go_post s h fun x g1 v F1 H1 e1 s1 r1 h1 => ?_⟩
    cases x with
    | list ys =>
      obtain ⟨hl, h1⟩ := h1.ite
      obtain ⟨b, ws, rfl, q1, q2⟩ := r1.list
      obtain ⟨a', vs', m1, m2, m3, m4, m5⟩ := s1.own hi
      rw [k1] at m1
      cases m1
      exact ⟨a, b, vs', ws, rfl, rfl, m2, s1.fh _ _ q1, lim_ok (by rw [m3.len, q2.len]; exact hl), h1.nx' (s1.updO hi k1 m2 m4 m5 (m3.append q2))⟩
    | _ => exact h1.elim
  · exact h.elim
def sSetIx (i : Nat) (fe fj : EF) : SF := fun ρ g => match ρ[i]? with
  | some (.own xs) => (fe ρ g).go ρ fun d g1 => (fj ρ g1).go ρ fun j g2 => match j with
    | .int n => match ixN xs.length n with
      | some m => if noTok [d] = true then .nx (ρ.set i (.own (xs.set m d))) g2 else .bad
      | none => .bad
    | _ => .bad
  | _ => .bad
theorem ds_setIx {i : Nat} {fj : EF} (h : PS X st (tAsg (tE c W fe) (gSub (tVar i) (tE c W fj) rSetL))) : DS X c W st (sSetIx i fe fj) := PS.imp h fun E σ H ⟨F, ρ, g, s, h⟩ => by
  unfold sSetIx at h
  split at h
  · rename_i xs hi
    refine ⟨F, ρ, g, s, go_post s h fun d g1 v F1 H1 e1 s1 r1 h1 => ?_⟩
    obtain ⟨a, vs, k1, k2, k3, k4, k5⟩ := s1.own hi
    refine ⟨_, k1, F1, ρ, g1, s1, go_post s1 h1 fun j g2 u F2 H2 e2 s2 r2 h2 => ?_⟩
    obtain ⟨a', vs', m1, m2, m3, m4, m5⟩ := s2.own hi
    rw [k1] at m1
    cases m1
    cases j with
    | int n =>
      cases r2.int
      simp only at h2
      split at h2
      · rename_i m hm
        obtain ⟨hn, h2⟩ := h2.ite
        refine ⟨a, vs', n, m, rfl, rfl, m2, by rw [m3.len]; exact hm, h2.nx' (s2.updO hi k1 m2 m4 m5 ?_)⟩
        have rr := RepAll.rq (RepAll.cons (r1.mono e2.f) .nil) hn
        cases rr with
        | cons q _ => exact RqAll.set q m m3
      · exact h2.elim
    | _ => exact h2.elim
  · exact h.elim
def sFrz (i : Nat) (f : SF) : SF := fun ρ g => match ρ[i]? with
  | some (.own xs) => f (ρ.set i (.d (.list xs))) g
  | _ => f ρ g
theorem dss_frz {i : Nat} (h : DSs X c W sts f) : DSs X c W sts (sFrz i f) := PSs.imp h fun E σ H ⟨F, ρ, g, s, h⟩ => by
  unfold sFrz at h
  split at h
  · rename_i xs hi
    obtain ⟨a, vs, k1, k2, k3, k4, k5⟩ := s.own hi
    exact ⟨_, _, g, s.freeze hi k1 k2 k4 k5 k3, SPost.up h fun b o q => by rw [upd_ne (ne_of_none q k4)]; exact q⟩
  · exact ⟨F, ρ, g, s, h⟩
def eIxO (i : Nat) (fj : EF) : EF := fun ρ g => match ρ[i]? with
  | some (.own xs) => (fj ρ g).bind fun j g1 => match j with
    | .int n => match atI xs n with
      | some d => .ok d g1
      | none => .bad
    | _ => .bad
  | _ => .bad
theorem d_ixO {i : Nat} {fj : EF} {a b : Expr} (h : PE X (.Subscript a b pos) (tOp (rIx X.K) (tVar i) (tE c W fj))) : DE X c W (.Subscript a b pos) (eIxO i fj) := PE.imp h fun σ H Q ⟨F, ρ, g, s, h⟩ => by
  unfold eIxO at h
  split at h
  · rename_i xs hi
    obtain ⟨a, vs, k1, k2, k3, k4, k5⟩ := s.own hi
    refine ⟨_, k1, F, ρ, g, s, PostG.bind s h fun j g1 v F1 H1 e1 s1 r1 h1 => ?_⟩
    obtain ⟨a', vs', m1, m2, m3, m4, m5⟩ := s1.own hi
    rw [k1] at m1
    cases m1
    cases j with
    | int n =>
      cases r1.int
      simp only at h1
      split at h1
      · rename_i d hd
        obtain ⟨v, hv, rv⟩ := atI_rq m3 hd
        exact .inl ⟨a, vs', n, v, rfl, rfl, SqL.of m2, hv, h1.now s1 (.inl rv)⟩
      · exact h1.elim
    | _ => exact h1.elim
  · exact h.elim
def eLenO (i : Nat) : EF := fun ρ g => match ρ[i]? with
  | some (.own xs) => .ok (.int xs.length) g
  | _ => .bad
theorem d_lenO {i : Nat} {e : Expr} (h : PE X e (tCB (fun xs H Q => ∃ x n, xs = [x] ∧ LenV X.K x H n ∧ Q (.int n) H) (tCons (tVar i) tNil))) : DE X c W e (eLenO i) := PE.imp h fun σ H Q ⟨F, ρ, g, s, h⟩ => by
  unfold eLenO at h
  split at h
  · rename_i xs hi
    obtain ⟨a, vs, k1, k2, k3, k4, k5⟩ := s.own hi
    exact ⟨_, k1, _, _, rfl, .inl ⟨vs, SqL.of k2, k3.len.symm⟩, h.now s rInt⟩
  · exact h.elim
def eIxA (i : Nat) (fj : EF) : EF := fun ρ g => match ρ[i]? with
  | some (.d x) => (fj ρ g).bind fun j g1 => opIx x j g1
  | _ => eIxO i fj ρ g
theorem d_ixA {i : Nat} {fj : EF} {a b : Expr} (hK : c.K = X.K) (h : PE X (.Subscript a b pos) (tOp (rIx X.K) (tVar i) (tE c W fj))) : DE X c W (.Subscript a b pos) (eIxA i fj) := ⟨fun pins s0 σ H Q I w => by
  obtain ⟨F, ρ, g, s, w⟩ := w
  unfold eIxA at w
  split at w
  · rename_i x hi
    refine h.run pins s0 σ H Q I ?_
    obtain ⟨v, k1, r1⟩ := s.slots i _ hi
    refine ⟨v, k1, F, ρ, g, s, PostG.bind s w fun y g2 u F2 H2 e2 s2 r2 h2 => ?_⟩
    unfold opIx at h2
    split at h2
    · obtain ⟨p, vs, rfl, q1, q2⟩ := (r1.mono e2.f).list
      cases r2.int
      split at h2
      · rename_i d hd
        obtain ⟨v, hv, rv⟩ := atI_rq q2 hd
        exact .inl ⟨p, vs, _, v, rfl, rfl, SqL.of (s2.fh _ _ q1), hv, h2.now s2 (.inl rv)⟩
      · exact h2.elim
    · obtain ⟨p, vs, rfl, q1, q2⟩ := (r1.mono e2.f).tuple
      cases r2.int
      split at h2
      · rename_i d hd
        obtain ⟨v, hv, rv⟩ := atI_rq q2 hd
        exact .inr (.inl ⟨p, vs, _, v, rfl, rfl, by rw [← hK]; exact seqT_mono s2.fh q1, hv, h2.now s2 (.inl rv)⟩)
      · exact h2.elim
    · cases r1.str
      cases r2.int
      obtain ⟨hz, h2⟩ := h2.ite
      split at h2
      · rename_i d hd
        exact .inr (.inr ⟨_, _, d, rfl, rfl, lim_ok hz, hd, h2.now s2 rStr⟩)
      · exact h2.elim
    · exact h2.elim
  · exact (d_ixO h).run pins s0 σ H Q I ⟨F, ρ, g, s, w⟩⟩
def eLenA (i : Nat) : EF := fun ρ g => match ρ[i]? with
  | some (.d (.list xs)) => .ok (.int xs.length) g
  | _ => eLenO i ρ g
theorem d_lenA {i : Nat} {e : Expr} (h : PE X e (tCB (fun xs H Q => ∃ x n, xs = [x] ∧ LenV X.K x H n ∧ Q (.int n) H) (tCons (tVar i) tNil))) : DE X c W e (eLenA i) := ⟨fun pins s0 σ H Q I w => by
  obtain ⟨F, ρ, g, s, w⟩ := w
  unfold eLenA at w
  split at w
  · rename_i xs hi
    refine h.run pins s0 σ H Q I ?_
    obtain ⟨v, k1, r1⟩ := s.slots i _ hi
    obtain ⟨a, vs, rfl, h1, h2⟩ := r1.list
    exact ⟨_, k1, _, _, rfl, .inl ⟨vs, SqL.of (s.fh _ _ h1), h2.len.symm⟩, w.now s rInt⟩
  · exact (d_lenO h).run pins s0 σ H Q I ⟨F, ρ, g, s, w⟩⟩
def forL (b : BF) (f : SF) : List D → RS → G → SO
  | [], ρ, g => .nx ρ g
  | x :: xs, ρ, g => match b x ρ with
    | none => .bad
    | some ρ1 => match f ρ1 g with
      | .nx ρ2 g2 => forL b f xs ρ2 g2
      | .ct ρ2 g2 => forL b f xs ρ2 g2
      | .bk ρ2 g2 => .nx ρ2 g2
      | o => o
def sFor (fi : LF) (b : BF) (f : SF) : SF := fun ρ g => (fi ρ g).go ρ fun items g1 => forL b f items ρ g1
theorem ds_for {tg iter : Expr} {body : List Stmt} {fi : LF} {is : List Nat} {b : BF} (hp : PassesOwn (model X.prog X.w) X.A X.env X.xe) (hc : X.calm = true) (hi : DI X c W tg iter fi) (hg : DG X c is tg b) (hb : DSs X c W body f)
    (hs : ∀ x, foldedSetIterable iter X.env x = pure x := by intro _; rfl) : DS X c W (.For tg iter body [] pos) (sFor fi b f) :=
  PS.imp (ps_for hp hc hi hg hb hs) fun E σ H ⟨F, ρ, g, s, h⟩ => ⟨F, ρ, g, s, go_post s h fun items g1 J F1 H1 e1 s1 r1 h1 => by
    refine ⟨fun i m σ H => ∃ F ρ g, Same F1 F ∧ SR c F H σ ρ g ∧ m = items.length - i ∧ i ≤ items.length ∧ SPost c (forL b f (items.drop i) ρ g) F W E, ⟨items.length, F1, ρ, g1, Same.refl F1, s1, by omega, Nat.zero_le _, by rw [List.drop_zero]; exact h1⟩, ?_⟩
    rintro i m σ H ⟨F, ρ, g, sF, s, rfl, hi, h⟩
    have sm : Same F1 H := sF.trans s.fh
    by_cases hlt : i < items.length
    · have hd : items[i]? = some items[i] := List.getElem?_eq_getElem hlt
      have hdr : items.drop i = items[i] :: items.drop (i + 1) := List.drop_eq_getElem_cons hlt
      obtain ⟨go, yl⟩ := (r1 i H sm).1 _ hd
      rw [hdr] at h
      simp only [forL] at h
      refine .inr ⟨go, _, fun σ' H' h => h, fun x H' y => ?_⟩
      obtain ⟨rfl, rx⟩ := yl x H' y
      cases q : b items[i] ρ with
      | none => simp only [q] at h; exact h.elim
      | some ρ1 =>
        simp only [q] at h
        refine ⟨F, ρ, g, items[i], ρ1, s, rx.mono sF, q, fun σ2 s2 _ => ⟨F, ρ1, g, s2, ?_⟩⟩
        cases q2 : f ρ1 g with
        | nx ρ2 g2 =>
          simp only [q2] at h
          exact fun σ3 F3 H3 e3 s3 => ⟨items.length - (i + 1), by omega, F3, ρ2, g2, sF.trans e3, s3, rfl, hlt, SPost.up h e3⟩
        | ct ρ2 g2 =>
          simp only [q2] at h
          exact fun σ3 F3 H3 e3 s3 => ⟨items.length - (i + 1), by omega, F3, ρ2, g2, sF.trans e3, s3, rfl, hlt, SPost.up h e3⟩
        | bk ρ2 g2 => simp only [q2] at h; exact fun σ3 F3 H3 e3 s3 => h σ3 F3 H3 e3 s3
        | rt d g2 => simp only [q2] at h; exact h
        | exc n fs ρ2 g2 => simp only [q2] at h; exact h
        | bad => simp only [q2] at h; exact h.elim
    · have e : i = items.length := by omega
      rw [e, List.drop_length] at h
      exact .inl ⟨(r1 i H sm).2 (by omega), h.nx' s⟩⟩
def whileF (t : TF) (f : SF) : Nat → RS → G → SO
  | 0, _, _ => .bad
  | n + 1, ρ, g => (t ρ g).go ρ fun k g1 => if k = true then (match f ρ g1 with
      | .nx ρ2 g2 => whileF t f n ρ2 g2
      | .ct ρ2 g2 => whileF t f n ρ2 g2
      | .bk ρ2 g2 => .nx ρ2 g2
      | o => o) else .nx ρ g1
def sWhile (n : Nat) (t : TF) (f : SF) : SF := fun ρ g => whileF t f n ρ g
theorem ds_while {body : List Stmt} {n : Nat} (hp : PassesOwn (model X.prog X.w) X.A X.env X.xe) (ht : DT X c W e tb) (hb : DSs X c W body f) : DS X c W (.While e body [] pos) (sWhile n tb f) :=
  PS.imp (ps_while hp ht hb) fun E σ H ⟨F, ρ, g, s, h⟩ => by
    refine ⟨fun m σ H => ∃ F ρ g, SR c F H σ ρ g ∧ SPost c (whileF tb f m ρ g) F W E, ⟨n, F, ρ, g, s, h⟩, ?_⟩
    rintro m σ H ⟨F, ρ, g, s, h⟩
    cases m with
    | zero => exact h.elim
    | succ m =>
      refine ⟨F, ρ, g, s, go_post s h fun k g1 v F1 H1 e1 s1 r1 h1 => ?_⟩
      cases r1
      cases k with
      | false => exact h1.nx' s1
      | true =>
        simp only [if_pos] at h1 ⊢
        refine ⟨_, fun σ' H' h => h, F1, ρ, g1, s1, ?_⟩
        cases q2 : f ρ g1 with
        | nx ρ2 g2 =>
          simp only [q2] at h1
          exact fun σ3 F3 H3 e3 s3 => ⟨m, Nat.lt_succ_self m, F3, ρ2, g2, s3, SPost.up h1 e3⟩
        | ct ρ2 g2 =>
          simp only [q2] at h1
          exact fun σ3 F3 H3 e3 s3 => ⟨m, Nat.lt_succ_self m, F3, ρ2, g2, s3, SPost.up h1 e3⟩
        | bk ρ2 g2 => simp only [q2] at h1; exact fun σ3 F3 H3 e3 s3 => h1 σ3 F3 H3 e3 s3
        | rt d g2 => simp only [q2] at h1; exact h1
        | exc n fs ρ2 g2 => simp only [q2] at h1; exact h1
        | bad => simp only [q2] at h1; exact h1.elim
end
def startR (n : Nat) (ds : List D) : RS := ds.map SV.d ++ List.replicate (n - ds.length) SV.un
def runB (n : Nat) (f : SF) (ds : List D) (g : G) : Out D := match f (startR n ds) g with
  | .nx _ g1 => .ok .none g1
  | .rt d g1 => .ok d g1
  | .exc n fs _ g1 => .exc n fs g1
  | _ => .bad
theorem sr_start {K : PySem.W.Frag} {cl : Str → Option Addr} {sa sb : Addr} {F H : Hp} {ds : List D} {vs : List V} {g : G} {N : List Str} (h : Same F H) (gk : GOk (mkC K cl sa sb F H) F H g) (r : RepAll (mkC K cl sa sb F H) F vs ds) : SR (mkC K cl sa sb F H) F H (L2.start N vs) (startR N.length ds) g where
  ext := Ext.refl h
  gok := gk
  g0 := ⟨_, _, gk.ha, gk.hb⟩
  len := by
    unfold L2.start startR
    simp only [List.length_append, List.length_map, List.length_replicate, r.length]
  slots := fun i x e => by
    unfold startR at e
    unfold L2.start
    by_cases hi : i < ds.length
    · rw [List.getElem?_append_left (by simpa using hi), List.getElem?_map] at e
      cases q : ds[i]? with
      | none => rw [q] at e; cases e
      | some d =>
        rw [q] at e
        cases e
        have go : ∀ {vs : List V} {ds : List D} {i : Nat} {d : D}, RepAll (mkC K cl sa sb F H) F vs ds → ds[i]? = some d → ∃ v, vs[i]? = some v ∧ Rep (mkC K cl sa sb F H) F v d := by
          intro vs ds i d r
          induction r generalizing i with
          | nil => intro e; simp at e
          | cons h t ih =>
            intro e
            cases i with
            | zero => simp at e; exact ⟨_, rfl, by rw [← e]; exact h⟩
            | succ i =>
              obtain ⟨v, h1, h2⟩ := ih (i := i) (by simpa using e)
              exact ⟨v, by simpa using h1, h2⟩
        obtain ⟨v, h1, h2⟩ := go r q
        refine ⟨v, ?_, h2⟩
        rw [List.getElem?_append_left (by rw [List.length_map, r.length]; exact hi), List.getElem?_map, h1]
        rfl
    · rw [List.getElem?_append_right (by simpa using hi), List.getElem?_replicate] at e
      split at e
      · cases e; trivial
      · cases e
  sep := fun i j xs ys a h1 => by
    unfold startR at h1
    by_cases hi : i < ds.length
    · rw [List.getElem?_append_left (by simpa using hi), List.getElem?_map] at h1
      cases q : ds[i]? with
      | none => rw [q] at h1; cases h1
      | some d => rw [q] at h1; cases h1
    · rw [List.getElem?_append_right (by simpa using hi), List.getElem?_replicate] at h1
      split at h1 <;> cases h1
section
variable {P : Program} {w : World} {K : PySem.W.Frag} {mg : Str → Option Value} {base : Heap} {cl : Str → Option Addr}
theorem fn_d {x qual : Str} {st : Stmt} {f : Addr} {fd : FuncData} {N ps : List Str} {k : Nat} {m : List D → G → Out D} {fb : SF} (Fn : Fun K x qual st f fd) (S : FnScope N ps (defScope st))
    (len : ∀ ds g, m ds g ≠ .bad → ds.length = ps.length) (hm : ∀ ds g, m ds g ≠ .bad → runB N.length fb ds g = m ds g)
    (hbody : ∀ (cdv : Value) (A : Around) (outer : List Env) (s : Shared) (H : Hp) (E : XK) (sa sb : Addr) (F0 H0 : Hp), Room k (A.deeper (envOfC qual (defScope st) s.heap.objs.size f cdv)) →
      DSs (cxOf (L2.CX P w) P w K mg base N qual (defScope st) f cdv A outer s H E) (mkC K cl sa sb F0 H0) (fun cls d _ H => E cls d H) (defBody st) fb) : FnD P w K mg base cl (k + 1) f fd ps m := by
  refine Fun.okX Fn S (fun vs H Q E ⟨sa, sb, F, ds, g, h1, h2, h3, h4⟩ => ?_) (fun cdv A outer s H vs Q E hr ⟨sa, sb, F, ds, g, h1, h2, h3, h4⟩ => ?_)
  · rw [h3.length]
    refine len ds g fun e => ?_
    rw [e] at h4
    exact h4
  · refine ⟨_, hbody cdv A outer s H E sa sb F H hr, F, startR N.length ds, g, sr_start h1 h2 h3, ?_⟩
    have hb : m ds g ≠ .bad := fun e => by rw [e] at h4; exact h4
    have e := hm ds g hb
    unfold runB at e
    rw [← e] at h4
    cases q : fb (startR N.length ds) g with
    | nx ρ g1 => rw [q] at h4; exact fun σ' F' H' _ s => h4 .non F' H' s.ext s.gok rNon
    | rt d g1 => rw [q] at h4; exact fun σ' ρ' v F' H' _ s r => h4 v F' H' s.ext s.gok r
    | exc n fs ρ g1 => rw [q] at h4; exact fun C dx vs σ' F' H' _ s hc hd hf => h4 C dx vs F' H' s.ext s.gok hc hd hf
    | bk ρ g1 => rw [q] at h4; exact h4.elim
    | ct ρ g1 => rw [q] at h4; exact h4.elim
    | bad => rw [q] at h4; exact h4.elim
end
end DL
namespace DL
open PySem
open PySem.Spec
open PyProof.Rows
open L2
inductive SVs (c : Ctx) (H F' H' : Hp) : List V → List SV → Prop
  | nil : SVs c H F' H' [] []
  | d {v : V} {x : D} {vs : List V} {ss : List SV} : Rep c F' v x → SVs c H F' H' vs ss → SVs c H F' H' (v :: vs) (.d x :: ss)
  | o {p : Addr} {ws vs : List V} {xs ds : List D} : H' p = some (.lst ws) → F' p = none → H p = none → RqAll c.K F' ws xs → RepAll c F' vs ds → SVs c H F' H' (.ref p :: vs) (.own xs :: ds.map .d)
  | oo {p q : Addr} {us ws vs : List V} {ys xs ds : List D} : H' p = some (.lst us) → F' p = none → H p = none → RqAll c.K F' us ys → H' q = some (.lst ws) → F' q = none → H q = none → RqAll c.K F' ws xs → p ≠ q → RepAll c F' vs ds → SVs c H F' H' (.ref p :: .ref q :: vs) (.own ys :: .own xs :: ds.map .d)
  | od {p : Addr} {vs : List V} {kvs : DK} {ds : List D} : H' p = some (.dT (dKV kvs)) → F' p = none → H p = none → RepAll c F' vs ds → SVs c H F' H' (.ref p :: vs) (.odc kvs :: ds.map .d)
def PostS (c : Ctx) (σ : L2.St) (o : Out (List SV)) (F H : Hp) (W : WX) (Q : List V → Hp → Prop) : Prop :=
  match o with
  | .ok ss g => ∀ vs F' H', Ext c.sa c.sb F H F' H' → GOk c F' H' g → SVs c H F' H' vs ss → Q vs H'
  | .exc n fs g => ∀ C dx vs F' H', Ext c.sa c.sb F H F' H' → GOk c F' H' g → c.cl n = some C → H' dx = some (.xd vs) → FldR c F' vs fs → W (.ref C) (some dx) σ H'
  | .bad => False
abbrev VF := RS → G → Out (List SV)
def tVs (c : Ctx) (W : WX) (f : VF) : TA := fun σ H Q => ∃ F ρ g, SR c F H σ ρ g ∧ PostS c σ (f ρ g) F H W Q
abbrev DVs (X : Cx) (c : Ctx) (W : WX) (es : List Expr) (f : VF) : Prop := PA X es (tVs c W f)
def vOf (fs : AF) : VF := fun ρ g => (fs ρ g).bind fun ds g1 => .ok (ds.map .d) g1
def vCons (fe : EF) (fs : VF) : VF := fun ρ g => (fe ρ g).bind fun x g1 => (fs ρ g1).bind fun ss g2 => .ok (.d x :: ss) g2
def vOwn (fo : OF') (fs : AF) : VF := fun ρ g => (fo ρ g).bind fun xs g1 => (fs ρ g1).bind fun ds g2 => .ok (.own xs :: ds.map .d) g2
theorem SVs.ofRep {c : Ctx} {H F' H' : Hp} : ∀ {vs : List V} {ds : List D}, RepAll c F' vs ds → SVs c H F' H' vs (ds.map .d)
  | _, _, .nil => .nil
  | _, _, .cons h t => .d h (SVs.ofRep t)
theorem fresh_back {c : Ctx} {F H F1 H1 : Hp} (e : Ext c.sa c.sb F H F1 H1) {p : Addr} (h : H1 p = none) : H p = none := by
  cases q : H p with
  | none => rfl
  | some o =>
    obtain ⟨o', q'⟩ := e.dom p o q
    rw [h] at q'
    cases q'
theorem SVs.back {c : Ctx} {F H F1 H1 F' H' : Hp} (e : Ext c.sa c.sb F H F1 H1) : ∀ {vs : List V} {ss : List SV}, SVs c H1 F' H' vs ss → SVs c H F' H' vs ss
  | _, _, .nil => .nil
  | _, _, .d h t => .d h (SVs.back e t)
  | _, _, .o h1 h2 h3 h4 h5 => .o h1 h2 (fresh_back e h3) h4 h5
  | _, _, .oo h1 h2 h3 h4 k1 k2 k3 k4 hn h5 => .oo h1 h2 (fresh_back e h3) h4 k1 k2 (fresh_back e k3) k4 hn h5
  | _, _, .od h1 h2 h3 h5 => .od h1 h2 (fresh_back e h3) h5
theorem PostS.up {c : Ctx} {σ : L2.St} {o : Out (List SV)} {F H F' H' : Hp} {W : WX} {Q : List V → Hp → Prop} (h : PostS c σ o F H W Q) (e : Ext c.sa c.sb F H F' H') : PostS c σ o F' H' W Q := by
  cases o with
  | ok a g => exact fun vs F1 H1 s k h1 => h vs F1 H1 (e.trans s) k (h1.back e)
  | exc n fs g => exact fun C dx vs F1 H1 s => h C dx vs F1 H1 (e.trans s)
  | bad => exact h
theorem PostS.bind {α β : Type} {c : Ctx} {σ : L2.St} {ρ : RS} {g0 : G} {R : Hp → β → α → Prop} {o : Out α} {k : α → G → Out (List SV)} {F H : Hp} {W : WX} {Q : β → Hp → Prop} {Q' : List V → Hp → Prop}
    (s0 : SR c F H σ ρ g0) (h : PostS c σ (o.bind k) F H W Q') (q : ∀ a g b F1 H1, Ext c.sa c.sb F H F1 H1 → SR c F1 H1 σ ρ g → R F1 b a → PostS c σ (k a g) F1 H1 W Q' → Q b H1) : PostG c σ R o F H W Q := by
  cases o with
  | ok a g => exact fun b F1 H1 e gk r => q a g b F1 H1 e (s0.ext' e gk) r (PostS.up (show PostS c σ (k a g) F H W Q' from h) e)
  | exc n fs g => exact h
  | bad => exact h
theorem Ext.back {sa sb : Addr} {F H F' H' : Hp} (e : Ext sa sb F H F' H') {p : Addr} (h : H p = none) {F0 H0 : Hp} (e0 : Ext sa sb F0 H0 F H) : H0 p = none := by
  cases q : H0 p with
  | none => rfl
  | some o =>
    obtain ⟨o', q'⟩ := e0.dom p o q
    rw [h] at q'
    cases q'
section
variable {X : Cx} {c : Ctx} {W : WX} {pos : Pos} {e : Expr} {es : List Expr} {fe : EF} {fs : AF} {fv : VF} {st : Stmt}
theorem dv_of (ha : DA X c W es fs) : DVs X c W es (vOf fs) := PA.imp ha fun σ H Q ⟨F, ρ, g, s, h⟩ => ⟨F, ρ, g, s, PostS.bind s h fun ds g1 vs F1 H1 e1 s1 r1 h1 => h1 vs F1 H1 (Ext.refl s1.fh) s1.gok (SVs.ofRep r1)⟩
theorem dv_cons (ha : DE X c W e fe) (hr : DVs X c W es fv) (hs : starEach (e :: es) X.env = (false, eval e X.env) :: starEach es X.env := by rfl) : DVs X c W (e :: es) (vCons fe fv) :=
  PA.imp (pa_cons ha hr hs) fun σ H Q ⟨F, ρ, g, s, h⟩ => ⟨F, ρ, g, s, PostS.bind s h fun x g1 v F1 H1 e1 s1 r1 h1 => ⟨F1, ρ, g1, s1, by
    cases q : fv ρ g1 with
    | bad => simp only [q, Out.bind] at h1; exact h1
    | exc n fs g2 => simp only [q, Out.bind] at h1; exact h1
    | ok ss g2 =>
      simp only [q, Out.bind] at h1
      exact fun vs F2 H2 e2 gk r2 => h1 (v :: vs) F2 H2 e2 gk (.d (r1.mono e2.f) r2)⟩⟩
theorem dv_own {fo : OF'} (ha : DEo X c W e fo) (hr : DA X c W es fs) (hs : starEach (e :: es) X.env = (false, eval e X.env) :: starEach es X.env := by rfl) : DVs X c W (e :: es) (vOwn fo fs) :=
  PA.imp (pa_cons ha hr hs) fun σ H Q ⟨F, ρ, g, s, h⟩ => ⟨F, ρ, g, s, by
    unfold vOwn at h
    cases q : fo ρ g with
    | bad => simp only [q, Out.bind] at h; exact h
    | exc n fs g2 => simp only [q, Out.bind] at h; exact h
    | ok xs g1 =>
      simp only [q, Out.bind] at h
      intro p ws F1 H1 e1 gk1 h1 h2 h3 h4
      have s1 := s.ext' e1 gk1
      refine ⟨F1, ρ, g1, s1, ?_⟩
      cases q2 : fs ρ g1 with
      | bad => simp only [q2] at h; exact h.elim
      | exc n fs g2 => simp only [q2] at h; exact fun C dx vs F2 H2 e2 gk hc hd hf => h C dx vs F2 H2 (e1.trans e2) gk hc hd hf
      | ok ds g2 =>
        simp only [q2] at h
        intro vs F2 H2 e2 gk r2
        have na : p ≠ c.sa := (ne_of_none s.gok.ha h3).symm
        have nb : p ≠ c.sb := (ne_of_none s.gok.hb h3).symm
        exact h (.ref p :: vs) F2 H2 (e1.trans e2) gk (.o (e2.keep p _ h1 na nb) (by rw [e2.ff p _ h1]; exact h2) h3 (RqAll_mono e2.f _ _ h4) r2)⟩
def vOwn2 (fo fo2 : OF') (fs : AF) : VF := fun ρ g => (fo ρ g).bind fun xs g1 => (vOwn fo2 fs ρ g1).bind fun ss g2 => .ok (.own xs :: ss) g2
theorem dv_own2 {fo fo2 : OF'} {e2 : Expr} (ha : DEo X c W e fo) (hb : DEo X c W e2 fo2) (hr : DA X c W es fs) (hs : starEach (e :: e2 :: es) X.env = (false, eval e X.env) :: starEach (e2 :: es) X.env := by rfl) (hs2 : starEach (e2 :: es) X.env = (false, eval e2 X.env) :: starEach es X.env := by rfl) : DVs X c W (e :: e2 :: es) (vOwn2 fo fo2 fs) :=
  PA.imp (pa_cons ha (dv_own hb hr hs2) hs) fun σ H Q ⟨F, ρ, g, s, h⟩ => ⟨F, ρ, g, s, by
    unfold vOwn2 at h
    cases q : fo ρ g with
    | bad => simp only [q, Out.bind] at h; exact h
    | exc n fs g2 => simp only [q, Out.bind] at h; exact h
    | ok xs g1 =>
      simp only [q, Out.bind] at h
      intro p ws F1 H1 e1 gk1 h1 h2 h3 h4
      have s1 := s.ext' e1 gk1
      refine ⟨F1, ρ, g1, s1, ?_⟩
      cases q2 : vOwn fo2 fs ρ g1 with
      | bad => simp only [q2] at h; exact h.elim
      | exc n fs g2 => simp only [q2] at h; exact fun C dx vs F2 H2 e2 gk hc hd hf => h C dx vs F2 H2 (e1.trans e2) gk hc hd hf
      | ok ss g2 =>
        simp only [q2] at h
        intro vs F2 H2 e2 gk r2
        have na : p ≠ c.sa := (ne_of_none s.gok.ha h3).symm
        have nb : p ≠ c.sb := (ne_of_none s.gok.hb h3).symm
        have hss : ∃ (ys ds : List D), ss = .own ys :: ds.map SV.d := by
          unfold vOwn at q2
          cases q3 : fo2 ρ g1 with
          | bad => simp only [q3, Out.bind] at q2; cases q2
          | exc n fs g2 => simp only [q3, Out.bind] at q2; cases q2
          | ok ys g3 =>
            simp only [q3, Out.bind] at q2
            cases q4 : fs ρ g3 with
            | bad => simp only [q4] at q2; cases q2
            | exc n fs g2 => simp only [q4] at q2; cases q2
            | ok ds g4 =>
              simp only [q4] at q2
              injection q2 with q2
              exact ⟨ys, ds, q2.symm⟩
        obtain ⟨ys, ds, rfl⟩ := hss
        refine h (.ref p :: vs) F2 H2 (e1.trans e2) gk ?_
        have kp := e2.keep p _ h1 na nb
        have kf : F2 p = none := by rw [e2.ff p _ h1]; exact h2
        generalize hl : ds.map SV.d = ls at r2
        cases r2 with
        | o k1 k2 k3 k4 k5 =>
          exact .oo kp kf h3 (RqAll_mono e2.f _ _ h4) k1 k2 (fresh_back e1 k3) k4 (ne_of_none h1 k3) k5
        | oo k1 k2 k3 k4 l1 l2 l3 l4 hn k5 =>
          cases ds with
          | nil => cases hl
          | cons d ds => cases hl⟩
def setAll : RS → List Nat → List SV → RS
  | ρ, i :: is, s :: ss => setAll (ρ.set i s) is ss
  | ρ, _, _ => ρ
def setV : L2.St → List Nat → List V → L2.St
  | σ, i :: is, v :: vs => setV (σ.set i (some v)) is vs
  | σ, _, _ => σ
theorem SR.setDs {c : Ctx} {F H : Hp} {g : G} : ∀ {is : List Nat} {vs : List V} {ds : List D} {σ : L2.St} {ρ : RS}, SR c F H σ ρ g → RepAll c F vs ds → SR c F H (setV σ is vs) (setAll ρ is (ds.map .d)) g
  | [], _, _, _, _, s, r => by cases r <;> exact s
  | i :: is, _, _, _, _, s, .nil => s
  | i :: is, _, _, _, _, s, .cons h t => SR.setDs (is := is) (s.setD h i) t
theorem SR.setSs {c : Ctx} {F0 H0 F H : Hp} {g g0 : G} : ∀ {is : List Nat} {vs : List V} {ss : List SV} {σ σ0 : L2.St} {ρ ρ0 : RS}, SR c F H σ ρ g → SVs c H0 F H vs ss → (∀ p, H0 p = none → c.H0 p = none ∧ ∀ (j : Nat) (ys : List D), ρ[j]? = some (.own ys) → σ[j]? ≠ some (some (.ref p))) → SR c F H (setV σ is vs) (setAll ρ is ss) g
  | [], _, _, _, _, _, _, s, r, _ => by cases r <;> exact s
  | i :: is, _, _, _, _, _, _, s, .nil, _ => s
  | i :: is, _, _, σ, σ0, ρ, ρ0, s, .d (v := v) (x := x) h t, k => SR.setSs (F0 := F0) (g0 := g0) (σ0 := σ0) (ρ0 := ρ0) (is := is) (s.setD h i) t fun p hp => ⟨(k p hp).1, fun j ys hj => by
      by_cases e : i = j
      · subst e
        by_cases hi : i < ρ.length
        · rw [List.getElem?_set_self hi] at hj; cases hj
        · rw [List.getElem?_eq_none (by rw [List.length_set]; omega)] at hj; cases hj
      · rw [List.getElem?_set_ne e] at hj ⊢
        exact (k p hp).2 j ys hj⟩
  | i :: is, _, _, _, _, _, _, s, .o h1 h2 h3 h4 h5, k => SR.setDs (is := is) (s.setO h1 h2 (k _ h3).1 h4 (k _ h3).2 i) h5
  | [i], _, _, _, _, _, _, s, .oo h1 h2 h3 h4 k1 k2 k3 k4 hn h5, k => s.setO h1 h2 (k _ h3).1 h4 (k _ h3).2 i
  | i :: i2 :: is, _, _, σ, _, ρ, _, s, .oo (p := p) (q := q) h1 h2 h3 h4 k1 k2 k3 k4 hn h5, k => SR.setDs (is := is) ((s.setO h1 h2 (k _ h3).1 h4 (k _ h3).2 i).setO k1 k2 (k _ k3).1 k4 (fun j zs hj hs => by
      by_cases e : i = j
      · subst e
        by_cases hi : i < σ.length
        · rw [List.getElem?_set_self hi] at hs
          injection hs with hs
          injection hs with hs
          injection hs with hs
          exact hn hs
        · rw [List.getElem?_eq_none (by rw [List.length_set]; omega)] at hs
          cases hs
      · rw [List.getElem?_set_ne e] at hj hs
        exact (k _ k3).2 j zs hj hs) i2) h5
  | i :: is, _, _, _, _, _, _, s, .od h1 h2 h3 h5, k => SR.setDs (is := is) (s.setDic h1 h2 (k _ h3).1 i) h5
def sTup (is : List Nat) (fv : VF) : SF := fun ρ g => (fv ρ g).go ρ fun ss g1 => if ss.length = is.length then .nx (setAll ρ is ss) g1 else .bad
theorem SVs.length {c : Ctx} {H F' H' : Hp} : ∀ {vs : List V} {ss : List SV}, SVs c H F' H' vs ss → vs.length = ss.length
  | _, _, .nil => rfl
  | _, _, .d _ t => by rw [List.length_cons, List.length_cons, SVs.length t]
  | _, _, .o _ _ _ _ h => by rw [List.length_cons, List.length_cons, List.length_map, h.length]
  | _, _, .oo _ _ _ _ _ _ _ _ _ h => by rw [List.length_cons, List.length_cons, List.length_cons, List.length_cons, List.length_map, h.length]
  | _, _, .od _ _ _ h => by rw [List.length_cons, List.length_cons, List.length_map, h.length]
theorem go_postS {c : Ctx} {σ : L2.St} {ρ : RS} {g0 : G} {o : Out (List SV)} {is : List Nat} {F H : Hp} {W : WX} {Q : List V → Hp → Prop} {E : Ends}
    (s0 : SR c F H σ ρ g0) (h : SPost c (o.go ρ fun ss g1 => if ss.length = is.length then .nx (setAll ρ is ss) g1 else .bad) F W E) (q : ∀ vs F1 H1, Ext c.sa c.sb F H F1 H1 → vs.length = is.length → (∀ F2 H2, Ext c.sa c.sb F1 H1 F2 H2 → (∀ p o, H1 p = some o → H2 p = some o) → E.nx (setV σ is vs) H2) → Q vs H1) : PostS c σ o F H W Q := by
  cases o with
  | ok ss g =>
    intro vs F1 H1 e gk r
    have h : SPost c (if ss.length = is.length then .nx (setAll ρ is ss) g else .bad) F W E := h
    obtain ⟨hl, h⟩ := h.ite
    have s1 := s0.ext' e gk
    refine q vs F1 H1 e (by rw [r.length]; exact hl) fun F2 H2 e2 hk => h _ F2 H2 (e.f.trans e2.f) ?_
    have gk2 : GOk c F2 H2 g := gk.ext (e2.ff _ _ gk.ha) (e2.ff _ _ gk.hb) (by rw [hk _ _ gk.ha, gk.ha]) (by rw [hk _ _ gk.hb, gk.hb])
    have r2 : SVs c H F2 H2 vs ss := by
      have up : ∀ {vs : List V} {ss : List SV}, SVs c H F1 H1 vs ss → SVs c H F2 H2 vs ss := by
        intro vs ss r
        induction r with
        | nil => exact .nil
        | d h t ih => exact .d (h.mono e2.f) ih
        | o h1 h2 h3 h4 h5 => exact .o (hk _ _ h1) (by rw [e2.ff _ _ h1]; exact h2) h3 (RqAll_mono e2.f _ _ h4) (h5.mono e2.f)
        | oo h1 h2 h3 h4 k1 k2 k3 k4 hn h5 => exact .oo (hk _ _ h1) (by rw [e2.ff _ _ h1]; exact h2) h3 (RqAll_mono e2.f _ _ h4) (hk _ _ k1) (by rw [e2.ff _ _ k1]; exact k2) k3 (RqAll_mono e2.f _ _ k4) hn (h5.mono e2.f)
        | od h1 h2 h3 h5 => exact .od (hk _ _ h1) (by rw [e2.ff _ _ h1]; exact h2) h3 (h5.mono e2.f)
      exact up r
    refine SR.setSs (F0 := F) (g0 := g) (σ0 := σ) (ρ0 := ρ) (s1.ext' e2 gk2) r2 fun p hp => ⟨?_, fun j ys hj hs => ?_⟩
    · cases z : c.H0 p with
      | none => rfl
      | some o =>
        obtain ⟨o', z'⟩ := s0.ext.dom p o z
        rw [hp] at z'
        cases z'
    · obtain ⟨a, vs', k1, k2, _⟩ := s0.own hj
      rw [hs] at k1
      cases k1
      rw [hp] at k2
      cases k2
  | exc n fs g => exact fun C dx vs F1 H1 e gk hc hd hf => h C dx vs σ F1 H1 e.f (s0.ext' e gk) hc hd hf
  | bad => exact h
theorem ds_tpar {i j : Nat} (h : PS X st (tPar i j (tVs c W fv))) : DS X c W st (sTup [i, j] fv) := PS.imp h fun E σ H ⟨F, ρ, g, s, h⟩ => ⟨F, ρ, g, s, go_postS s h fun vs F1 H1 e1 hl q => by
  match vs, hl with
  | [v, w], _ => exact ⟨v, w, rfl, by
      have s1 : Same F1 H1 := e1.fh
      exact q F1 H1 (Ext.refl s1) fun _ _ h => h⟩⟩
theorem ds_tpar3 {i j l : Nat} (h : PS X st (tPar3 i j l (tVs c W fv))) : DS X c W st (sTup [i, j, l] fv) := PS.imp h fun E σ H ⟨F, ρ, g, s, h⟩ => ⟨F, ρ, g, s, go_postS s h fun vs F1 H1 e1 hl q => by
  match vs, hl with
  | [v, w, u], _ => exact ⟨v, w, u, rfl, q F1 H1 (Ext.refl e1.fh) fun _ _ h => h⟩⟩
def gNames : List Nat → TGs
  | [] => gNil
  | i :: is => gCons (gName i) (gNames is)
theorem gNames_run : ∀ {is : List Nat} {vs : List V} {σ : L2.St} {H : Hp} {Q : L2.St → Hp → Prop}, vs.length = is.length → Q (setV σ is vs) H → gNames is vs σ H Q
  | [], [], _, _, _, _, h => ⟨rfl, h⟩
  | i :: is, v :: vs, σ, H, Q, hl, h => ⟨v, vs, rfl, gNames_run (is := is) (by simpa using hl) h⟩
theorem ds_tasg {is : List Nat} {n : Nat} (h : PS X st (tAsg (tTup (tVs c W fv)) (gTup X.K n (gNames is)))) (hn : is.length = n) (hz : n ≤ LIM) : DS X c W st (sTup is fv) := PS.imp h fun E σ H ⟨F, ρ, g, s, h⟩ => ⟨F, ρ, g, s, go_postS s h fun vs F1 H1 e1 hl q => by
  refine ⟨lim_ok (by omega), fun p np => ⟨p, vs, rfl, SqT.of upd_same, by omega, gNames_run hl ?_⟩⟩
  exact q F1 _ (Ext.newM e1.fh np) fun b o z => by rw [upd_ne (ne_of_none z np)]; exact z⟩
end
def flatD : D → Bool
  | .none => true
  | .bool _ => true
  | .int _ => true
  | .str _ => true
  | _ => false
theorem flat_rq {K : PySem.W.Frag} {F : Hp} {v : V} {d : D} (h : Rq K F v d) : flatV v = flatD d := by cases h <;> rfl
theorem flat_all {K : PySem.W.Frag} {F : Hp} : ∀ {vs : List V} {ds : List D}, RqAll K F vs ds → vs.all flatV = ds.all flatD
  | _, _, .nil => rfl
  | _, _, .cons h t => by rw [List.all_cons, List.all_cons, flat_rq h, flat_all t]
theorem eqV_rq {K : PySem.W.Frag} {F : Hp} {v u : V} {d e : D} (h : Rq K F v d) (k : Rq K F u e) (h1 : flatD d = true) (h2 : flatD e = true) : eqV v u = PyData.eqv d e := by
  cases h <;> first | (cases h1; done) | (cases k <;> first | (cases h2; done) | (simp only [eqV, PyData.eqv]; done) | rfl)
theorem any_rq {K : PySem.W.Frag} {F : Hp} {u : V} {e : D} (k : Rq K F u e) (h2 : flatD e = true) : ∀ {vs : List V} {ds : List D}, RqAll K F vs ds → ds.all flatD = true → inV u vs = ds.any fun z => PyData.eqv z e
  | _, _, .nil, _ => rfl
  | _, _, .cons h t, f => by
    simp only [List.all_cons, Bool.and_eq_true] at f
    have ih := any_rq k h2 t f.2
    unfold inV at ih ⊢
    rw [List.any_cons, List.any_cons, ih, eqV_rq h k f.1 h2]
def opIn (neg : Bool) (x y : D) (g : G) : Out D := match y with
  | .list ds => if shp x = true ∧ shp (.list ds) = true then .ok (.bool (if neg then !(ds.any fun z => PyData.eqv z x) else ds.any fun z => PyData.eqv z x)) g else .bad
  | .tuple ds => if flatD x = true ∧ ds.all flatD = true then .ok (.bool (if neg then !(ds.any fun z => PyData.eqv z x) else ds.any fun z => PyData.eqv z x)) g else .bad
  | _ => .bad
theorem OpR.of_or {X : Cx} {f : Value → Value → Sem Value} {r r' : R2} (h : OpR X f r) (h' : OpR X f r') : OpR X f (fun x y H Q => r x y H Q ∨ r' x y H Q) := h.or h'
section
variable {X : Cx} {c : Ctx} {W : WX} {pos : Pos} {a b : Expr} {fa fb : EF}
theorem d_in (hK : c.K = X.K) (hu : X.A.units + 65 < cLine) (ha : DE X c W a fa) (hb : DE X c W b fb) (hm : behindInMarks .In b = false := by rfl) : DC X c W (.Compare a [.In] [b] pos) (eBin (opIn false) fa fb) :=
  d_cmp ((op_in_seq).or (op_inD hu)) (by
    intro σ ρ g F H x y dx dy Q s rx ry h
    unfold opIn at h
    split at h
    · obtain ⟨⟨h1, h2⟩, h⟩ := h.ite
      refine .inr ⟨dx, _, Rq_dp _ _ (Rq_mono s.fh _ _ (by rw [← hK]; exact rx.rq (shp_tok h1))), Rq_dp _ _ (Rq_mono s.fh _ _ (by rw [← hK]; exact ry.rq rfl)), h1, h2, h.now s rBl⟩
    · obtain ⟨⟨h1, h2⟩, h⟩ := h.ite
      obtain ⟨p, vs, rfl, q1, q2⟩ := ry.tuple
      have rq := rx.rq (by cases dx with | dict ps => cases h1 | _ => rfl)
      refine .inl ⟨p, vs, rfl, .inr (by rw [← hK]; exact seqT_mono s.fh q1), by rw [flat_rq rq]; exact h1, by rw [flat_all q2]; exact h2, ?_⟩
      rw [any_rq rq h1 q2 h2]
      exact h.now s rBl
    · exact h.elim) ha hb hm
theorem d_notIn (hK : c.K = X.K) (hu : X.A.units + 65 < cLine) (ha : DE X c W a fa) (hb : DE X c W b fb) (hm : behindInMarks .NotIn b = false := by rfl) : DC X c W (.Compare a [.NotIn] [b] pos) (eBin (opIn true) fa fb) :=
  d_cmp ((op_notIn_seq).or (op_notInD hu)) (by
    intro σ ρ g F H x y dx dy Q s rx ry h
    unfold opIn at h
    split at h
    · obtain ⟨⟨h1, h2⟩, h⟩ := h.ite
      refine .inr ⟨dx, _, Rq_dp _ _ (Rq_mono s.fh _ _ (by rw [← hK]; exact rx.rq (shp_tok h1))), Rq_dp _ _ (Rq_mono s.fh _ _ (by rw [← hK]; exact ry.rq rfl)), h1, h2, h.now s rBl⟩
    · obtain ⟨⟨h1, h2⟩, h⟩ := h.ite
      obtain ⟨p, vs, rfl, q1, q2⟩ := ry.tuple
      have rq := rx.rq (by cases dx with | dict ps => cases h1 | _ => rfl)
      refine .inl ⟨p, vs, rfl, .inr (by rw [← hK]; exact seqT_mono s.fh q1), by rw [flat_rq rq]; exact h1, by rw [flat_all q2]; exact h2, ?_⟩
      rw [any_rq rq h1 q2 h2]
      exact h.now s rBl
    · exact h.elim) ha hb hm
end
def iSeq (fe : EF) : LF := fun ρ g => (fe ρ g).bind fun x g1 => match x with
  | .list xs => .ok xs g1
  | .tuple xs => .ok xs g1
  | _ => .bad
theorem di_seq {X : Cx} {c : Ctx} {W : WX} {tg e : Expr} {fe : EF} (hK : c.K = X.K) (ha : DE X c W e fe) : DI X c W tg e (iSeq fe) := ⟨fun pins s σ H R I w => by
  obtain ⟨F, ρ, g, sr, h⟩ := w
  unfold iSeq at h
  cases q : fe ρ g with
  | bad => simp only [q, Out.bind] at h; exact h.elim
  | exc n fs g1 => exact (di_list (tg := tg) hK ha).run pins s σ H R I ⟨F, ρ, g, sr, by unfold iLst; simp only [q, Out.bind] at h ⊢; exact h⟩
  | ok x g1 =>
    cases x with
    | list xs => exact (di_list (tg := tg) hK ha).run pins s σ H R I ⟨F, ρ, g, sr, by unfold iLst; simp only [q, Out.bind] at h ⊢; exact h⟩
    | tuple xs => exact (di_tup (tg := tg) hK ha).run pins s σ H R I ⟨F, ρ, g, sr, by unfold iTpl; simp only [q, Out.bind] at h ⊢; exact h⟩
    | _ => simp only [q, Out.bind] at h; exact h.elim⟩
section
variable {X : Cx} {c : Ctx} {W : WX} {st : Stmt} {own : List (Str × Nat)} {fi : LF} {b : BF} {ft : TF} {fe : EF} {is : List Nat}
theorem ds_lcO {i : Nat} (sub : ∀ i ∈ is, i ∈ own.map (·.2)) (h : PS X st (tAsg (tLc (tI c W fi) (tG c is b) (tT c W0 ft) (tE c W0 fe) (own.map (·.2))) (gName i))) : DS X c W st (sSetO i (oComp (own.map (·.2)) fi b ft fe)) :=
  ds_setO (PS.imp h fun E σ H w => lc_imp sub σ H _ w)
theorem ds_lc {i : Nat} (sub : ∀ i ∈ is, i ∈ own.map (·.2)) (h : PS X st (tAsg (tLc (tI c W fi) (tG c is b) (tT c W0 ft) (tE c W0 fe) (own.map (·.2))) (gName i))) : DS X c W st (sSet i (eOf (oComp (own.map (·.2)) fi b ft fe))) :=
  ds_set (PS.imp h fun E σ H w => lc_imp sub σ H _ (of_imp σ H _ w))
end
structure Df (K : PySem.W.Frag) (mg : Str → Option Value) (x : Str) (st : Stmt) (ps : List Str) where
  f : Addr
  fd : FuncData
  F : Fun K x x st f fd
  b : Binds K fd ps []
  g : mg x = some (.ref f)
def mOf (n np : Nat) (f : SF) (ds : List D) (g : G) : Out D := if ds.length = np then runB n f ds g else .bad
theorem fn_m {P : Program} {w : World} {K : PySem.W.Frag} {mg : Str → Option Value} {base : Heap} {cl : Str → Option Addr} {x : Str} {st : Stmt} {N ps : List Str} {k : Nat} {fb : SF} (T : Df K mg x st ps) (S : FnScope N ps (defScope st)) {n np : Nat} (hn : n = N.length) (hp : np = ps.length)
    (hbody : ∀ (cdv : Value) (A : Around) (outer : List Env) (s : Shared) (H : Hp) (E : XK) (sa sb : Addr) (F0 H0 : Hp), Room k (A.deeper (envOfC x (defScope st) s.heap.objs.size T.f cdv)) →
      DSs (cxOf (L2.CX P w) P w K mg base N x (defScope st) T.f cdv A outer s H E) (mkC K cl sa sb F0 H0) (fun cls d _ H => E cls d H) (defBody st) fb) : FnD P w K mg base cl (k + 1) T.f T.fd ps (mOf n np fb) := by
  subst hn hp
  refine fn_d T.F S (fun ds g h => ?_) (fun ds g h => ?_) hbody
  · unfold mOf at h
    split at h
    · assumption
    · exact absurd rfl h
  · unfold mOf at h ⊢
    split at h
    · rename_i e; rw [if_pos e]
    · exact absurd rfl h
end DL
namespace DL
open PySem
open PySem.Spec
open PyProof.Rows
open L2
structure ExcK (K : PySem.W.Frag) (pr : Program) (C : Addr) (fld : Str) (st : Stmt) where
  f : Addr
  fd : FuncData
  T : OexC K C
  cc : Addr
  cda : Addr
  ex : ∃ (oc : Value) (od : Option Addr) (kV doc pm : Value) (an : Option Addr) (ct : Value) (osl : Array (Option Value)) (qual : Str), fd = PySem.W.ksFn "__init__" qual (defArgs st) (defBody st) (defScope st) .none kV doc pm an (.ref cda) ct cc ∧ K.lookup f = some ⟨oc, od, .func fd, osl⟩ ∧ PySem.W.codeIn K (.ref cda) qual = true
  code : ∃ (ccl : Value) (cdd : Option Addr) (vs : Array Value) (ccs : Array (Option Value)) (file : Str) (tf : Tok), K.lookup cda = some ⟨ccl, cdd, .fields vs, ccs⟩ ∧ vs[2]? = some (.str file tf) ∧ ((pr.main.file : Str) == file) = true
  cell : ∃ (cl : Value) (cld : Option Addr) (csl : Array (Option Value)), K.lookup cc = some ⟨cl, cld, .cell (some (.ref C)), csl⟩
  cls : ∃ cd, PySem.W.clsIn K C = some cd
  mro : PySem.W.mroIn K C (.ref C) = some true
  sup : PySem.W.ks_superIn K C C "__init__" = some (some (.builtin "ValueError.__init__"))
  sub : PySem.W.subIn K (.ref C) (.type "ValueError") = some true
  nosup : PySem.W.nsIn K mainGlobals "super" = some none
  noany : PySem.W.nsIn K PySem.cStatics "thirdparty.any" = some none
  top : (pr.main.scope.names.lookup ("super" : Str)).isSome = false
  fin : PySem.W.findIn K (.ref C) fld = some none
  ini : PySem.W.findIn K (.ref C) "__init__" = some (some (.ref f))
  tf : PySem.W.typeIn K (.ref f) = some (.type "function")
def InitForm (st : Stmt) (fld : Str) (msg : Str) : Prop := ∃ (p1 p2 p3 p4 p5 p6 p7 p8 p9 p10 p11 p12 : Pos) (k : Nat), (p3.endLine == p7.line) = true ∧ defBody st = [
  .Expr (.Call (.Attribute (.Call (.Name "super" p1) [] [] p2) "__init__" p3) [.BinOp (.Constant (.str msg) k p4) .Add (.Name fld p5) p6] [] p7) p8,
  .Assign [.Attribute (.Name "self" p9) fld p10] (.Name fld p11) p12]
structure InitSc (sc : Scope) (fld : Str) : Prop where
  kind : sc.kind = .function
  co : sc.isCoroutine = false
  gen : sc.isGenerator = false
  self : sc.names.lookup ("self" : Str) = some .local
  fld : sc.names.lookup fld = some .local
  cls : sc.names.lookup ("__class__" : Str) = some .free
  sup : sc.names.lookup ("super" : Str) = some .globalImplicit
  nocell : ∀ x ∈ sc.names, x.2 ≠ .cell
  free : ∀ y : Str, sc.names.lookup y = some .free → y = "__class__"
def spI (K : PySem.W.Frag) (C : Addr) (fld msg : Str) : Sp := fun vs H Q _ => ∃ (a : Addr) (z : Str), vs = [.ref a, .str z] ∧ H a = some (exo a C none) ∧ msg.length + z.length ≤ sizeLine ∧ ∀ d, H d = none → d ≠ a → Q .non (upd (upd H d (exd d [(fld, .str z)])) a (exo a C (some d)))
section
variable {P : Program} {w : World} {K : PySem.W.Frag} {mg : Str → Option Value} {base : Heap} {C : Addr} {fld msg : Str} {st : Stmt}
abbrev cxI (P : Program) (w : World) (K : PySem.W.Frag) (mg : Str → Option Value) (base : Heap) (fld : Str) (env : Env) (A : Around) (outer : List Env) (s : Shared) (H : Hp) (xe : Value → Shared → Prop) : Cx where
  prog := P
  w := w
  K := K
  mg := mg
  base := base
  A := A.deeper env
  N := ["self", fld]
  s_0 := s
  H_0 := H
  env := env
  outer := outer
  stack := env :: outer
  ex := []
  fn := fun _ => false
  calm := true
  pn := []
  xe := xe
theorem init_ok (T : ExcK K P C fld st) (hs : InitForm st fld msg) (sc : InitSc (defScope st) fld) (hne : fld ≠ "self") (har : ((defArgs st).posonlyargs ++ (defArgs st).args).head?.map (fun a => a.arg) = some ("self" : Str))
    (hd1 : (fld == ("__debug__" : Str)) = false) (hd2 : (fld == ("__classdict__" : Str)) = false) (hmg : mg "super" = none) :
    FnOk P w K mg base (L2.CX P w) 1 T.f T.fd ["self", fld] (spI K C fld msg) := by
  obtain ⟨f, fd, OT, cc, cda, ⟨oc, od, kV, doc, pm, an, ct, osl, qual, rfl, lk, hcd⟩, ⟨ccl, cdd, vs2, ccs, file, tf, hcode, hvs2, hfile⟩, ⟨ccl2, cld, csl, hcell⟩, ⟨cdC, hcls⟩, hmro, hsup, hsub, hnosup, hnoany, htop, hfin, hini, htf⟩ := T
  obtain ⟨p1, p2, p3, p4, p5, p6, p7, p8, p9, p10, p11, p12, kk, hp37, hbody⟩ := hs
  refine ⟨fun vs H Q E ⟨a, z, e, _⟩ => by rw [e]; rfl, fun A outer s H args us vs Q E hr e0 hb r ⟨a, z, ev, ea, hz, hq⟩ => ?_⟩
  subst ev
  obtain ⟨u1, u2, rfl, r1, t2, rfl⟩ : ∃ u1 u2, us = [u1, u2] ∧ u1 = Value.ref a ∧ ∃ t, u2 = Value.str z t := by
    cases r with
    | cons p q => cases q with
      | cons p' q' => cases q'; exact ⟨_, _, rfl, p, p'⟩
  subst r1
  have KX : K.In s.heap := e0.mod.kin.keeps fun b o e => (e0.bs b o e).1
  have lim : s.heap.NoLimit := e0.mod.nolimit.keeps fun b o e => (e0.bs b o e).1
  have zp : (["self", fld] : List Str).zip [Value.ref a, Value.str z t2] = [(("self" : Str), Value.ref a), (fld, Value.str z t2)] := rfl
  rw [zp] at hb
  refine PySem.ks_codeAny_call_defAt (body := defBody st) (binds := [(("self" : Str), Value.ref a), (fld, Value.str z t2)]) hr.depth (KX _ _ lk) rfl lim (PySem.W.codeRec_of KX hcd) rfl hb sc.nocell (fun x hx => ?_) (fun h₀ hns hk => ?_) sc.co sc.gen sc.kind
  · rcases List.mem_cons.mp hx with rfl | hx
    · exact sc.self
    · rcases List.mem_cons.mp hx with rfl | hx
      · exact sc.fld
      · cases hx
  have KX0 : K.In h₀ := KX.keeps hk
  -- the frame
  obtain ⟨oC, hC1, hC2⟩ : ∃ oD, h₀.get? C = some oD ∧ oD.data = .cls cdC := by
    unfold PySem.W.clsIn at hcls
    split at hcls
    · rename_i c d cd' sl ho
      cases hcls
      exact ⟨_, KX0 _ _ ho, rfl⟩
    · cases hcls
  generalize henv : callEnv (PySem.W.ksFn "__init__" qual (defArgs st) (defBody st) (defScope st) Value.none kV doc pm an (Value.ref cda) ct cc) s.heap.objs.size f = env
  have eL : env.locals = s.heap.objs.size := by rw [← henv]; rfl
  have eC : env.cells = [(("__class__" : Str), cc)] := by rw [← henv]; rfl
  have eS : env.scope = defScope st := by rw [← henv]; rfl
  have eF : env.frame = some s.heap.objs.size := by rw [← henv]; rfl
  have eG : env.globals = mainGlobals := by rw [← henv]; rfl
  have eB : env.builtins = builtinsNs := by rw [← henv]; rfl
  have eU : env.func = some f := by rw [← henv]; rfl
  have eD : env.code = .ref cda := by rw [← henv]; rfl
  have cl1 : ∀ (x : Str) c, env.cells.lookup x = some c → x = "__class__" ∧ c = cc := fun x c e => by
    rw [eC] at e
    simp only [List.lookup_cons, List.lookup_nil] at e
    split at e
    · rename_i h1
      exact ⟨by simpa using h1, (Option.some.inj e).symm⟩
    · cases e
  have vis : ∀ x : Str, Vis env.scope x → x = "self" ∨ x = fld ∨ x = "__class__" ∨ True := fun _ _ => .inr (.inr (.inr trivial))
  generalize hx : (fun e s' => wpAny (model P w) (A.deeper env) (leaving env e) (fun _ s'' => CR (L2.CX P w) outer P w H s Q E (.error e) s'') (fun e' s'' => CR (L2.CX P w) outer P w H s Q E (.error e') s'') s' : Value → Shared → Prop) = xe
  have ok : (cxI P w K mg base fld env A outer s H xe).Ok := by
    have noA : ∀ b : Addr, b ∉ (cxI P w K mg base fld env A outer s H xe).ex := fun b z => absurd (show b ∈ ([] : List Addr) from z) (by simp)
    exact {
      mod := e0.mod
      kind := by show env.scope.kind = _; rw [eS]; exact sc.kind
      glob := eG
      blt := eB
      above := by show s.heap.objs.size ≤ env.locals; rw [eL]; exact Nat.le_refl _
      inj := fun x y c h1 h2 => by rw [(cl1 x c h1).1, (cl1 y c h2).1]
      has := fun x hx => by
        rcases hx with hx | hx
        · have hx : env.scope.names.lookup x = some .cell := hx
          rw [eS] at hx
          exact absurd rfl (sc.nocell _ (PySem.mem_of_lookup hx))
        · have hx : env.scope.names.lookup x = some .free := hx
          rw [eS] at hx
          refine ⟨cc, ?_⟩
          rw [sc.free x hx]
          show env.cells.lookup _ = _
          rw [eC]
          rfl
      cab := fun x c h1 _ => by cases h1
      hd := fun _ => hr.hd
      frames := Around.frames_deeper e0.frames
      stk := .inr ⟨rfl, by show env.frame = some env.locals; rw [eF, eL]⟩
      exf := fun b z => absurd z (noA b)
      bs := e0.bs
      bsz := e0.bsz
      noex := fun b o _ => noA b
      exfs := fun b z => absurd z (noA b)
      funs := e0.funs
      frf := e0.frf }
  have hcc0 : base.get? cc = some ⟨ccl2, cld, .cell (some (.ref C)), csl⟩ := e0.mod.kin _ _ hcell
  have I : Inv (cxI P w K mg base fld env A outer s H xe) [] [some (.ref a), some (.str z)] H { s with heap := h₀, toks := s.toks + 2 } := {
    ok := ok
    os := rfl
    bare := e0.bare
    base := Un.kept hk
    loc := by
      refine ⟨_, by show h₀.Ns env.locals _; rw [eL]; exact hns, fun i x v h1 h2 h3 => ?_⟩
      match i, h1, h2 with
      | 0, h1, h2 =>
        cases h1
        cases h2
        refine ⟨.ref a, rfl, .inl ⟨by show env.scope.names.lookup _ = _; rw [eS]; exact sc.self, ?_⟩⟩
        show List.lookup _ [(fld, Value.str z t2), (("self" : Str), Value.ref a)] = _
        rw [List.lookup_cons, show (("self" : Str) == fld) = false from by simp [Ne.symm hne]]
        rfl
      | 1, h1, h2 =>
        cases h1
        cases h2
        refine ⟨.str z t2, ⟨t2, rfl⟩, .inl ⟨by show env.scope.names.lookup _ = _; rw [eS]; exact sc.fld, ?_⟩⟩
        show List.lookup _ [(fld, Value.str z t2), (("self" : Str), Value.ref a)] = _
        rw [List.lookup_cons, show (fld == fld) = true from by simp]
      | i + 2, h1, h2 => simp at h2
    cell := fun x c h1 => by
      obtain ⟨_, rfl⟩ := cl1 x c h1
      exact ⟨_, _, hk _ _ ((e0.bs _ _ hcc0).1), rfl⟩
    free := by show H env.locals = none; rw [eL]; exact e0.hok.fresh (Nat.le_refl _)
    freeC := fun x c h1 => by
      obtain ⟨_, rfl⟩ := cl1 x c h1
      exact (e0.bs _ _ hcc0).2
    pin := fun p hp => absurd (show p ∈ ([] : List (Addr × Obj)) from hp) (by simp)
    hok := e0.hok.kept hk
    len := rfl }
  have hks : env.kindOf "super" = some .globalImplicit := by show env.scope.names.lookup _ = _; rw [eS]; exact sc.sup
  have hkc : env.kindOf "__class__" = some .free := by show env.scope.names.lookup _ = _; rw [eS]; exact sc.cls
  have hkk : env.scope.kind = .function := by rw [eS]; exact sc.kind
  obtain ⟨ar, har1, har2⟩ : ∃ ar, ((defArgs st).posonlyargs ++ (defArgs st).args).head? = some ar ∧ ar.arg = ("self" : Str) := by
    cases q : ((defArgs st).posonlyargs ++ (defArgs st).args).head? with
    | none => rw [q] at har; cases har
    | some ar => rw [q] at har; exact ⟨ar, rfl, Option.some.inj har⟩
  rw [hbody]
  show _root_.PySem.wpAt _ _ _ (execs _ env) _ _ _
  have he : eval (.Call (.Attribute (.Call (.Name "super" p1) [] [] p2) "__init__" p3) [.BinOp (.Constant (.str msg) kk p4) .Add (.Name fld p5) p6] [] p7) env = (do
      let ov ← attributeBase (.Call (.Name "super" p1) [] [] p2) "__init__" env (eval (.Call (.Name "super" p1) [] [] p2) env)
      standAt p3.atName
      let (f, first) ← holding [ov] (getMethod ov "__init__" (do return (← importBound (.Call (.Name "super" p1) [] [] p2) env).getD true))
      callWith p7 f first (backTo p7 (starEach [.BinOp (.Constant (.str msg) kk p4) .Add (.Name fld p5) p6] env)) []) := by
    show (do
      let ov ← attributeBase (.Call (.Name "super" p1) [] [] p2) "__init__" env (eval (.Call (.Name "super" p1) [] [] p2) env)
      standAt p3.atName
      methodCall (.Call (.Name "super" p1) [] [] p2) "__init__" p3 p7 env ov 1 (backTo p7 (starEach [.BinOp (.Constant (.str msg) kk p4) .Add (.Name fld p5) p6] env)) []) = _
    have e1 : methodCallForm 1 (backTo p7 (starEach [.BinOp (.Constant (.str msg) kk p4) .Add (.Name fld p5) p6] env)) [] = true := rfl
    unfold methodCall methodCallPos calleeOf
    rw [e1, hp37]
    rfl
  refine PySem.ks_wpAt_execs_cons (PySem.ks_wpAt_Expr_any (PySem.ks_wpAt_MethodCall ?_ he) (by unfold interactive; rw [hkk]; rfl))
  refine PySem.ks_wpAt_super_base (f := f) (cc := cda) (ar := ar) hks hkc (by decide) eU (KX0 _ _ lk) rfl har1 eD (KX0 _ _ hcode) rfl hvs2 hfile htop ?_
  have gl : h₀.Ns mainGlobals mg := e0.mod.glob.keeps I.bk
  obtain ⟨mb, hb1, hb2⟩ := e0.mod.blt
  have bl : h₀.Ns builtinsNs mb := hb1.keeps I.bk
  have bsup : bootBuiltins "super" = some (.type "super") := by decide +kernel
  refine PySem.W.ks_loadName_global hkk hks (Calls.loadGlobal_builtin (by rw [eG]; exact gl) hmg (by rw [eB]; exact bl) ((hb2 "super" (by decide)).trans bsup) ⟨rfl, ?_⟩)
  refine wpAny_loadName_free hkk hkc (c := cc) (v := .ref C) (by rw [eC]; rfl) ⟨_, KX0 _ _ hcell, rfl⟩ ?_
  obtain ⟨m, hm1, hm2⟩ := I.loc
  obtain ⟨u0, hu0, hl0⟩ := hm2 0 "self" (.ref a) rfl rfl (by show Vis env.scope _; rw [eS]; exact .inl sc.self)
  cases hu0
  have hself : m "self" = some (.ref a) := by
    rcases hl0 with h | ⟨h, _⟩
    · exact h.2
    · have h : env.scope.names.lookup ("self" : Str) = some .cell ∨ env.scope.names.lookup ("self" : Str) = some .free := h
      rw [eS, sc.self] at h
      rcases h with h | h <;> cases h
  rw [har2]
  refine wpAny_loadName_local hkk (by show env.scope.names.lookup _ = _; rw [eS]; exact sc.self) hm1 hself ?_
  refine PySem.ks_wpAny_isType_cls hC1 hC2 ⟨rfl, ?_⟩
  obtain ⟨t1, hoa⟩ := exo_at I.hok ea
  have hoa : h₀.get? a = some ({ cls := .ref C, dict := none, data := .fields #[.ref t1, .none, .none, .none, .bool false, .none] } : Obj) := hoa
  refine PySem.ks_wpAny_call_super hC1 hC2 hoa rfl (fun c e => by cases e) (PySem.W.looks_mroIn KX0 hmro) (fun h1 hso hk1 => ?_)
  -- the super object stands
  have I1 : Inv (cxI P w K mg base fld env A outer s H xe) [] [some (.ref a), some (.str z)] H { s with heap := h1, toks := s.toks + 2 } := I.kept (t' := s.toks + 2) hk1
  have KX1 : K.In h1 := KX0.keeps hk1
  have hoa1 := hk1 _ _ hoa
  have hac : a ≠ C := fun e => by
    rw [e, hC1] at hoa
    cases hoa
    cases hC2
  obtain ⟨cd, hcd1, hcd2⟩ : ∃ cd, PySem.W.clsIn K C = some cd ∧ PySem.W.alongIn K "__init__" ((cd.mro.dropWhile (· != .ref C)).drop 1) = some (some (.builtin "ValueError.__init__")) := by
    refine ⟨cdC, hcls, ?_⟩
    unfold PySem.W.ks_superIn at hsup
    rw [hcls] at hsup
    exact hsup
  refine PySem.W.kxs_getMethod PySem.W.kxs_ValueError hso (PySem.W.looks_opaque KX1 hnoany) (l₀ := cd.mro) (fun A Q E s k q => wpAny_bind ((PySem.W.looks_clsIn KX1 hcd1) A _ E s k (wpAny_pure q))) rfl KX1 hcd2
    (fun A Q E s k q => wpAny_bind (wpAny_typeOf_ref (k _ _ hoa1) ((PySem.W.looks_subIn KX1 hsub) A _ E s k q))) hac (by decide) ?_
  show wpAny _ _ (callWith p7 (.ref h1.objs.size) [] (backTo p7 ((false, eval (.BinOp (.Constant (.str msg) kk p4) .Add (.Name fld p5) p6) env) :: starEach [] env)) []) _ _ _
  generalize hs2 : ({ heap := h1.push (PySem.W.kxs_mw "ValueError.__init__" a), gens := s.gens, drawn := s.drawn, toks := s.toks + 2 + 1, os := s.os } : Shared) = s2
  have hu2 : s2.heap.get? h1.objs.size = some (PySem.W.kxs_mw "ValueError.__init__" a) := by rw [← hs2]; exact Heap.get?_push_at rfl rfl
  have I2 : Inv (cxI P w K mg base fld env A outer s H xe) [] [some (.ref a), some (.str z)] H s2 := by
    rw [← hs2]
    exact I1.kept (t' := s.toks + 2 + 1) fun b o e => Heap.get?_push_of_some _ e
  have hu0 : H h1.objs.size = none := I1.hok.fresh (Nat.le_refl _)
  have I3 : Inv (cxI P w K mg base fld env A outer s H xe) [(h1.objs.size, PySem.W.kxs_mw "ValueError.__init__" a)] [some (.ref a), some (.str z)] H s2 := I2.pins_of fun p hp => by
    have e : p = (h1.objs.size, PySem.W.kxs_mw "ValueError.__init__" a) := by simpa using hp
    subst e
    refine ⟨hu2, hu0, Nat.ne_of_gt I1.lt, I1.nofs (Nat.le_refl _), fun v e => by cases e⟩
  have pfld : PE (cxI P w K mg base fld env A outer s H xe) (.Name fld p5) (tVar 1) := pe_var rfl (by show Vis env.scope _; rw [eS]; exact .inl sc.fld) hd1 hd2
  have pself : PE (cxI P w K mg base fld env A outer s H xe) (.Name "self" p9) (tVar 0) := pe_var rfl (by show Vis env.scope _; rw [eS]; exact .inl sc.self) (by decide) (by decide)
  have pfld2 : PE (cxI P w K mg base fld env A outer s H xe) (.Name fld p11) (tVar 1) := pe_var rfl (by show Vis env.scope _; rw [eS]; exact .inl sc.fld) hd1 hd2
  have pargs : PA (cxI P w K mg base fld env A outer s H xe) [.BinOp (.Constant (.str msg) kk p4) .Add (.Name fld p5) p6] _ := pa_cons (pe_op op_add_str pe_str pfld) pa_nil
  refine PySem.W.kxs_callWith (i := "ValueError.__init__") (x := a) rfl (Calls.evalArgs_plain ?_)
  refine wpAny_mono (pargs.run p7 _ s2 _ H (fun vs H' => vs = [.str (msg ++ z)] ∧ H' = H) I3 ⟨_, rfl, msg, z, rfl, rfl, hz, rfl, rfl⟩) (fun us s3 hu3 => ?_) fun _ _ h => h
  obtain ⟨vs, H', I4, r4, rfl, rfl⟩ := hu3
  obtain ⟨v4, rfl, t4, rfl⟩ := vals1 r4
  refine ⟨(I4.pin _ (List.mem_append_right _ (List.mem_singleton.mpr rfl))).1, ?_⟩
  have hu3 : s3.heap.get? h1.objs.size = some (PySem.W.kxs_mw "ValueError.__init__" a) := (I4.pin _ (List.mem_append_right _ (List.mem_singleton.mpr rfl))).1
  obtain ⟨t5, ho5⟩ := exo_at I4.hok ea
  obtain ⟨nm, q, N, bs, bm, sn, sub, ab, col, dd, k0, k1, k2, k3, k5, hC, hbm⟩ := OT.cls
  have hC3 := I4.kIn _ _ hC
  have hex : ExcBaseFacts "ValueError" "ValueError.__new__" "ValueError.__init__" _ := PySem.F.excBase_ValueError
  show wpAny _ _ (call (.ref h1.objs.size) [.str (msg ++ z) t4]) _ _ _
  have I5 : Inv (cxI P w K mg base fld env A outer s H' xe) [] [some (.ref a), some (.str z)] H' s3 := I4.pins_of fun p hp => by simp at hp
  obtain ⟨hp3, g3, d3, tk3, os3⟩ := s3
  refine wpAny_call (codeAny_of_tree ?_)
  show wpAny _ (A.deeper env).in1 (callAny (.ref h1.objs.size) ⟨[.str (msg ++ z) t4], []⟩) _ _ _
  simp only [callAny]
  refine wpAny_bind (wpAny_load hu3 ?_)
  have ek : (Value.type "method-wrapper" == Value.type "method" || Value.type "method-wrapper" == Value.type "builtin_function_or_method" || Value.type "method-wrapper" == Value.type "method-wrapper") = true := by decide
  simp only [PySem.W.kxs_mw, ek, if_true]
  refine PySem.W.KFB.if_so (by decide) (wpAny_bind (PySem.W.check_bound_init hex.toExcCallFacts hC3 ho5 rfl (wpAny_bind (wpAny_pure (wpAny_pure ?_)))))
  refine ⟨PySem.plainId_quiet hex.init.plain _, codeAny_builtin hex.initEntry (PySem.W.exc_init_tree (cls := .ref C) (t0 := t5) (dv := none) (c2 := .none) (c3 := .none) (b4 := .bool false) ho5 (by rw [sizeLine_eq]; exact (by decide : 1 ≤ 16777216)) fun h6 hk6 hx6 _ => ?_)⟩
  have J := I5.write (t' := tk3) (x := a) (e := a) (o := exo a C none) (by rw [ea]; exact True.intro) (.inl rfl) hk6 ⟨_, hx6⟩ (exo_ok hx6)
  have eu : upd H' a (exo a C none) = H' := by
    funext b
    by_cases hb : b = a
    · rw [hb, upd_same, ea]
    · rw [upd_ne hb]
  rw [eu] at J
  have st2 := pss_one (ps_ost (f := fld) (p' := p10) (pos := p12) pself pfld2)
  have run2 := st2.run [] { heap := h6, gens := g3, drawn := d3, toks := tk3, os := os3 } _ H' { nx := fun _ H2 => Q .non H2, rt := fun _ _ => False } J
    ⟨.str z, rfl, .ref a, rfl, a, C, rfl, OT, hfin, .inl ⟨ea, fun d hd1 hd2 => hq d hd1 hd2⟩⟩
  refine wpAt_of_wpAny (wpAny_mono run2 (fun fl s7 h7 => ?_) fun _ _ h => h)
  cases fl with
  | next =>
    obtain ⟨σ7, H7, J7, q7⟩ := h7
    exact ⟨.non, H7, J7.os, J7.bare, J7.base, J7.hok, rfl, q7⟩
  | ret v => obtain ⟨_, _, _, _, _, z⟩ := h7; exact z.elim
  | brk => obtain ⟨_, _, _, z⟩ := h7; exact z.elim
  | cont => obtain ⟨_, _, _, z⟩ := h7; exact z.elim
end
end DL
namespace DL
open PySem
open PySem.Spec
open PyProof.Rows
open L2
structure Ex (K : PySem.W.Frag) (mg : Str → Option Value) (pr : Program) (x fld msg : Str) (st : Stmt) where
  C : Addr
  g : mg x = some (.ref C)
  k : ExcK K pr C fld st
  b : Binds K k.fd ["self", fld] []
  xf : XfC K C
def sRaise (n fld : Str) (fe : EF) : SF := fun ρ g => (fe ρ g).go ρ fun d g1 => match d with
  | .str z => if z.length ≤ LIM then .exc n [(fld, .str z)] ρ g1 else .bad
  | _ => .bad
section
variable {X : Cx} {c : Ctx} {W : WX} {pos p pos' : Pos} {e : Expr} {fe : EF} {x fld msg : Str} {st : Stmt}
theorem ds_raise (hK : c.K = X.K) (T : Ex X.K X.mg X.prog x fld msg st) (I : FnOk X.prog X.w X.K X.mg X.base (L2.CX X.prog X.w) 1 T.k.f T.k.fd ["self", fld] (spI X.K T.C fld msg)) (hm : msg.length ≤ LIM) (hcl : c.cl x = some T.C) (hc : X.calm = true) (hr : Room 2 X.A) (tk : Takes X W) (hg : Gl X x) (he : DE X c W e fe)
    (hdb : (x == ("__debug__" : Str)) = false := by decide) (hs : starEach [e] X.env = (false, eval e X.env) :: starEach [] X.env := by rfl) (hpl : (backTo pos (starEach [] X.env)).any (·.1) = false := by rfl) :
    DS X c W (.Raise (some (.Call (.Name x p) [e] [] pos)) none pos') (sRaise x fld fe) :=
  PS.imp (ps_raise hc tk (pmk_oex T.k.T T.k.ini T.k.tf I hr T.b .nil (fun _ _ _ _ _ _ _ h => by obtain ⟨_, _, _, _, _, _, _, _, _, _, _, _, z⟩ := h; exact z.elim) hg T.g (pa_cons he pa_nil hs) hdb hs hpl)) fun E σ H ⟨F, ρ, g, s, h⟩ => by
    refine ⟨F, ρ, g, s, go_post s h fun d g1 v F1 H1 e1 s1 r1 h1 => ?_⟩
    cases d with
    | str z =>
      cases r1.str
      obtain ⟨hl, h1⟩ := h1.ite
      refine ⟨by show 1 ≤ 1000; decide, fun a na => ⟨a, z, rfl, upd_same, ?_, fun d nd ned => ⟨rfl, d, [(fld, V.str z)], upd_same, ?_, ?_, ?_⟩⟩⟩
      · rw [sizeLine_eq]
        have hm' : msg.length ≤ 1000000 := hm
        have hl' : z.length ≤ 1000000 := hl
        omega
      · rw [upd_ne ned, upd_same]
      · rw [upd_ne ned] at nd; exact nd
      · have nd1 : H1 d = none := by rw [upd_ne ned] at nd; exact nd
        have eq : upd (del (upd (upd (upd H1 a (exo a T.C none)) d (exd d [(fld, V.str z)])) a (exo a T.C (some d))) a) d (.xd [(fld, V.str z)]) = upd H1 d (.xd [(fld, V.str z)]) := by
          funext b
          by_cases hb : b = d
          · rw [hb, upd_same, upd_same]
          · rw [upd_ne hb, upd_ne hb]
            by_cases ha : b = a
            · rw [ha, del_same, na]
            · rw [del_ne ha, upd_ne ha, upd_ne hb, upd_ne ha]
        rw [eq]
        exact h1 T.C d _ σ F1 _ (Same.refl _) (s1.newM nd1) hcl upd_same (.cons ⟨rfl, .str z⟩ .nil)
    | _ => exact h1.elim
def noEx : RS → Bool
  | [] => true
  | .ex _ :: _ => false
  | _ :: r => noEx r
theorem noEx_get : ∀ {ρ : RS} {i : Nat} {fs : List (Str × D)}, noEx ρ = true → ρ[i]? ≠ some (.ex fs)
  | [], _, _, _, h => by simp at h
  | .ex _ :: _, _, _, h, _ => by cases h
  | .un :: r, 0, _, _, h => by simp at h
  | .d _ :: r, 0, _, _, h => by simp at h
  | .own _ :: r, 0, _, _, h => by simp at h
  | .odc _ :: r, 0, _, _, h => by simp at h
  | .un :: r, i + 1, _, h, e => noEx_get (ρ := r) (i := i) h (by simpa using e)
  | .d _ :: r, i + 1, _, h, e => noEx_get (ρ := r) (i := i) h (by simpa using e)
  | .own _ :: r, i + 1, _, h, e => noEx_get (ρ := r) (i := i) h (by simpa using e)
  | .odc _ :: r, i + 1, _, h, e => noEx_get (ρ := r) (i := i) h (by simpa using e)
theorem SR.at {F H : Hp} {σ : L2.St} {ρ : RS} {g : G} (s : SR c F H σ ρ g) (n : noEx ρ = true) {a d a0 d0 : Addr} : SR ((c.at a0 d0).at a d) F H σ ρ g where
  ext := s.ext
  gok := GOk.conv (c := c) rfl rfl s.gok
  g0 := s.g0
  len := s.len
  slots := fun i x h => by
    have q := s.slots i x h
    cases x with
    | un => trivial
    | d x => exact q
    | own xs => exact q
    | ex fs => exact absurd h (noEx_get n)
    | odc kvs => exact q
  sep := s.sep
theorem SR.back {F H : Hp} {σ : L2.St} {ρ : RS} {g : G} {a d : Addr} (s : SR (c.at a d) F H σ ρ g) (n : noEx ρ = true) : SR c F H σ ρ g where
  ext := s.ext
  gok := GOk.conv (c := c.at a d) rfl rfl s.gok
  g0 := s.g0
  len := s.len
  slots := fun i x h => by
    have q := s.slots i x h
    cases x with
    | un => trivial
    | d x => exact q
    | own xs => exact q
    | ex fs => exact absurd h (noEx_get n)
    | odc kvs => exact q
  sep := s.sep
theorem SR.setE {F H : Hp} {σ : L2.St} {ρ : RS} {g : G} (s : SR c F H σ ρ g) {vs : List (Str × V)} {fs : List (Str × D)} (h1 : H c.ed = some (.xd vs)) (h2 : FldR c F vs fs) (i : Nat) : SR c F H (σ.set i (some (.ref c.ea))) (ρ.set i (.ex fs)) g where
  ext := s.ext
  gok := s.gok
  g0 := s.g0
  len := by rw [List.length_set, List.length_set, s.len]
  slots := fun j y h => by
    by_cases hj : i = j
    · subst hj
      by_cases hi : i < ρ.length
      · rw [List.getElem?_set_self hi] at h
        cases h
        rw [List.getElem?_set_self (by rw [s.len]; exact hi)]
        exact ⟨vs, rfl, h1, h2⟩
      · rw [List.getElem?_eq_none (by rw [List.length_set]; omega)] at h
        cases h
    · rw [List.getElem?_set_ne hj] at h ⊢
      exact s.slots j y h
  sep := fun j k xs ys a h1 h2 h3 h4 => by
    have n1 : i ≠ j := fun e => by
      subst e
      by_cases hi : i < ρ.length
      · rw [List.getElem?_set_self hi] at h1; cases h1
      · rw [List.getElem?_eq_none (by rw [List.length_set]; omega)] at h1; cases h1
    have n2 : i ≠ k := fun e => by
      subst e
      by_cases hi : i < ρ.length
      · rw [List.getElem?_set_self hi] at h2; cases h2
      · rw [List.getElem?_eq_none (by rw [List.length_set]; omega)] at h2; cases h2
    rw [List.getElem?_set_ne n1] at h1 h3
    rw [List.getElem?_set_ne n2] at h2 h4
    exact s.sep j k xs ys a h1 h2 h3 h4
def sTry (i : Nat) (n : Str) (fb fh : SF) : SF := fun ρ g => match fb ρ g with
  | .exc m fs ρ1 g1 => if m = n then (if noEx ρ1 = true then (match fh (ρ1.set i (.ex fs)) g1 with
      | .nx ρ2 g2 => if noEx (ρ2.set i .un) = true then .nx (ρ2.set i .un) g2 else .bad
      | .bk ρ2 g2 => if noEx (ρ2.set i .un) = true then .bk (ρ2.set i .un) g2 else .bad
      | .ct ρ2 g2 => if noEx (ρ2.set i .un) = true then .ct (ρ2.set i .un) g2 else .bad
      | .rt d g2 => .rt d g2
      | _ => .bad) else .bad) else .exc m fs ρ1 g1
  | o => o
theorem FldR.conv {c c' : Ctx} (h : c.K = c'.K) {F : Hp} {vs : List (Str × V)} {fs : List (Str × D)} (r : FldR c F vs fs) : FldR c' F vs fs := by
  unfold FldR at r ⊢
  rw [← h]
  exact r
theorem Rep.conv {c c' : Ctx} (h1 : c.K = c'.K) (h2 : c.sa = c'.sa) {F : Hp} {v : V} {d : D} (h : Rep c F v d) : Rep c' F v d := by
  unfold Rep at h ⊢
  rw [← h1, ← h2]
  exact h
theorem ds_try {i : Nat} {n : Str} {C : Addr} {body suite : List Stmt} {b₀ : Stmt} {np : Pos} {nn : Str} {fb fh : SF} (hs : X.stack = X.env :: X.outer) (hf : X.env.frame = some X.env.locals) (hN : X.N.Nodup) (hi : X.N[i]? = some nn) (hln : X.env.kindOf nn = some .local) (hK : c.K = X.K) (hc : Names X n (.ref C)) (hcl : c.cl n = some C)
    (hmt : ∀ (m : Str) (C' : Addr), c.cl m = some C' → PySem.W.exmOne X.K (.ref C') (.ref C) = some (decide (m = n))) (tk : Takes X W)
    (hb : ∀ (W : WX) (pn : List (Addr × Obj)) (xe : Value → Shared → Prop), Takes (X.tr pn xe) W → PassesOwn (model X.prog X.w) X.A X.env xe → DSs (X.tr pn xe) c W body fb)
    (hsu : ∀ (a dd : Addr) (oe : Obj) (pn : List (Addr × Obj)), Zc (.ref C) (some dd) oe → (∃ vs, oe.data = .fields vs) → DSs (X.suite a ((a, oe) :: pn)) (c.at a dd) W0 (b₀ :: suite) fh) :
    DS X c W (.Try body [.ExceptHandler (some (.Name n np)) (some nn) (b₀ :: suite) pos'] [] [] pos) (sTry i n fb fh) :=
  PS.imp (ps_try_as (tb := fun W => tS c W fb) (ts := fun a cls d E σ H => cls = .ref C ∧ ∃ dd, d = some dd ∧ tS (c.at a dd) W0 fh E σ H) (Wout := W) hs hf hN hi hln hc tk hb fun a oe cls d pn hz hd =>
    ⟨fun pins s σ H E I w => by
      obtain ⟨rfl, dd, rfl, w⟩ := w
      exact (hsu a dd oe pn hz hd).run pins s σ H E I w⟩) fun E σ H ⟨F, ρ, g, s, h⟩ => by
    refine ⟨F, ρ, g, s, ?_⟩
    unfold sTry at h
    cases q : fb ρ g with
    | nx ρ1 g1 => simp only [q] at h; exact h
    | rt d g1 => simp only [q] at h; exact h
    | bk ρ1 g1 => simp only [q] at h; exact h
    | ct ρ1 g1 => simp only [q] at h; exact h
    | bad => simp only [q] at h; exact h
    | exc m fs ρ1 g1 =>
      simp only [q] at h
      intro C' dx vs σ1 F1 H1 e1 s1 hc1 hd1 hf1
      refine ⟨decide (m = n), hmt m C' hc1, fun hb a na => ?_, fun hb => ?_⟩
      · have em : m = n := of_decide_eq_true hb
        rw [if_pos em] at h
        by_cases hn : noEx ρ1 = true
        · rw [if_pos hn] at h
          have ec : C' = C := by rw [em, hcl] at hc1; exact (Option.some.inj hc1).symm
          subst ec
          have s2 : SR (c.at a dx) F1 H1 (σ1.set i (some (.ref a))) (ρ1.set i (.ex fs)) g1 := SR.setE (c := c.at a dx) (s1.at (a0 := a) (d0 := dx) hn) (h1 := hd1) (FldR.conv (c := c) rfl hf1) i
          refine ⟨rfl, dx, rfl, F1, _, g1, s2, ?_⟩
          cases q2 : fh (ρ1.set i (.ex fs)) g1 with
          | nx ρ2 g2 =>
            simp only [q2] at h
            obtain ⟨hn2, h⟩ := h.ite
            exact fun σ3 F3 H3 e3 s3 => h _ F3 H3 (e1.trans e3) (SR.back (c := c) (s3.unset none i) hn2)
          | bk ρ2 g2 =>
            simp only [q2] at h
            obtain ⟨hn2, h⟩ := h.ite
            exact fun σ3 F3 H3 e3 s3 => h _ F3 H3 (e1.trans e3) (SR.back (c := c) (s3.unset none i) hn2)
          | ct ρ2 g2 =>
            simp only [q2] at h
            obtain ⟨hn2, h⟩ := h.ite
            exact fun σ3 F3 H3 e3 s3 => h _ F3 H3 (e1.trans e3) (SR.back (c := c) (s3.unset none i) hn2)
          | rt d g2 =>
            simp only [q2] at h
            exact fun σ3 ρ3 v F3 H3 e3 s3 r3 => by
              have s4 : SR c F3 H3 (σ3.map fun _ => none) (ρ3.map fun _ => .un) g2 := {
                ext := s3.ext
                gok := GOk.conv (c := c.at a dx) rfl rfl s3.gok
                g0 := s3.g0
                len := by rw [List.length_map, List.length_map, s3.len]
                slots := fun j y hy => by
                  rw [List.getElem?_map] at hy
                  cases z : ρ3[j]? with
                  | none => rw [z] at hy; cases hy
                  | some y' => rw [z] at hy; cases hy; trivial
                sep := fun j k xs ys b k1 => by
                  rw [List.getElem?_map] at k1
                  cases z : ρ3[j]? with
                  | none => rw [z] at k1; cases k1
                  | some y' => rw [z] at k1; cases k1 }
              exact h _ _ v F3 H3 (e1.trans e3) s4 (Rep.conv (c := c.at a dx) rfl rfl r3)
          | exc _ _ _ _ => simp only [q2] at h; exact h.elim
          | bad => simp only [q2] at h; exact h.elim
        · rw [if_neg hn] at h; exact h.elim
      · have em : ¬ m = n := of_decide_eq_false hb
        rw [if_neg em] at h
        exact h C' dx vs σ1 F1 H1 e1 s1 hc1 hd1 hf1
def eExF (i : Nat) (f : Str) : EF := fun ρ g => match ρ[i]? with
  | some (.ex fs) => match fs.lookup f with
    | some d => .ok d g
    | none => .bad
  | _ => .bad
theorem FldR.get {F : Hp} {f : Str} {d : D} : ∀ {vs : List (Str × V)} {fs : List (Str × D)}, FldR c F vs fs → fs.lookup f = some d → ∃ v, vs.lookup f = some v ∧ Rq c.K F v d
  | _, _, .nil, h => by cases h
  | (n, v) :: vs, (n', d') :: fs, .cons h t, e => by
    obtain ⟨h1, h2⟩ := h
    have h1 : n = n' := h1
    subst h1
    rw [List.lookup_cons] at e ⊢
    split at e
    · cases e; exact ⟨v, rfl, h2⟩
    · exact FldR.get t e
theorem d_xf {i : Nat} {f : Str} {C a d : Addr} {oe : Obj} {pn : List (Addr × Obj)} (T : XfC X.K C) (hno : PySem.W.findIn X.K (.ref C) f = some none) (hz : Zc (.ref C) (some d) oe) (hf : ∃ vs, oe.data = .fields vs) (he : PE (X.suite a ((a, oe) :: pn)) e (tVar i)) (hb : attributeBase e f X.env (eval e X.env) = eval e X.env := by rfl) :
    DE (X.suite a ((a, oe) :: pn)) (c.at a d) W (.Attribute e f pos) (eExF i f) := PE.imp (pe_xf T hno hz hf he hb) fun σ H Q ⟨F, ρ, g, s, h⟩ => by
  unfold eExF at h
  split at h
  · rename_i fs hi
    split at h
    · rename_i d0 hl
      obtain ⟨vs, k1, k2, k3⟩ := s.slots i _ hi
      obtain ⟨v, hv, rv⟩ := k3.get hl
      exact ⟨.ref a, k1, rfl, rfl, d, vs, v, rfl, k2, hv, h.now s (.inl (Rq_mono (Same.refl F) _ _ rv))⟩
    · exact h.elim
  · exact h.elim
def tIfF (t a b : TF) : TF := fun ρ g => (t ρ g).bind fun k g1 => if k = true then a ρ g1 else b ρ g1
theorem dt_if {a b : Expr} {ft fa fb : TF} (ht : DT X c W e ft) (ha : DT X c W a fa) (hb : DT X c W b fb) : DT X c W (.IfExp e a b pos) (tIfF ft fa fb) := ⟨fun pins s σ H Q I ⟨F, ρ, g, sr, h⟩ => by
  refine isTrue_IfExp (thn (ht.run pins s σ H (fun k H' => if k = true then tT c W fa σ H' Q else tT c W fb σ H' Q) I ⟨F, ρ, g, sr, PostG.bind sr h fun k g1 v F1 H1 e1 s1 r1 h1 => ?_⟩) fun k s1 ⟨H1, I1, q1⟩ => ?_)
  · cases r1
    cases k with
    | true => exact ⟨F1, ρ, g1, s1, h1⟩
    | false => exact ⟨F1, ρ, g1, s1, h1⟩
  · cases k with
    | true => exact ha.run pins s1 σ H1 Q I1 q1
    | false => exact hb.run pins s1 σ H1 Q I1 q1⟩
def eRev (fa : EF) : EF := fun ρ g => (fa ρ g).bind fun x g1 => match x with
  | .list xs => .ok (.list xs.reverse) g1
  | _ => .bad
theorem RqAll.rev {K : PySem.W.Frag} {F : Hp} : ∀ {vs : List V} {ds : List D}, RqAll K F vs ds → RqAll K F vs.reverse ds.reverse
  | _, _, .nil => .nil
  | _, _, .cons h t => by
    rw [List.reverse_cons, List.reverse_cons]
    exact (RqAll.rev t).append (.cons h .nil)
theorem d_rev {k : Nat} {p1 p2 p3 : Pos} (hK : c.K = X.K) (ha : DE X c W e fe) : DE X c W (.Subscript e (.Slice none none (some (.UnaryOp .USub (.Constant (.int 1) k p1) p2)) p3) pos) (eRev fe) :=
  PE.imp (pe_revL ha) fun σ H Q ⟨F, ρ, g, s, h⟩ => ⟨F, ρ, g, s, PostG.bind s h fun x g1 v F1 H1 e1 s1 r1 h1 => by
    cases x with
    | list xs =>
      obtain ⟨p, vs, rfl, q1, q2⟩ := r1.list
      exact ⟨p, vs, rfl, by rw [← hK]; exact SqL.of (s1.fh _ _ q1), fun q n => h1.newList s1 n q2.rev⟩
    | _ => exact h1.elim⟩
end
end DL
namespace DL
open PySem
open PySem.Spec
open PyProof.Rows
open L2
def rvN (n : Nat) (i : Int) : Nat := (max (-1) (min (if i < 0 then i + n else i) ((n : Int) - 1)) + 1).toNat
theorem rv_bounds (n : Nat) (i : Int) : sliceBounds (some i) none (some (-1)) n = ((rvN n i : Int) - 1, -1, -1) := by
  simp only [sliceBounds, Option.getD_some, rvN]
  have h : ¬ ((-1 : Int) > 0) := by decide
  simp only [h, if_false]
  congr 1
  omega
theorem rvN_le (n : Nat) (i : Int) : rvN n i ≤ n := by
  unfold rvN
  omega
theorem rv_pick (items : Array Value) (i : Int) : slicePick items (some i) none (some (-1)) = (items.toList.take (rvN items.size i)).reverse.toArray := by
  unfold slicePick
  rw [rv_bounds]
  show ((sliceRange ((rvN items.size i : Int) - 1) (-1) (-1)).filterMap (items[·]?)).toArray = _
  rw [PySem.W.krv_sliceRange, PySem.W.krv_range, List.filterMap_reverse]
  have h := pick_run items 0 (rvN items.size i)
  have e : (List.range (rvN items.size i)).map (0 + ·) = List.range (rvN items.size i) := by
    rw [show ((0 + ·) : Nat → Nat) = id from funext fun k => Nat.zero_add k, List.map_id]
  rw [e, List.drop_zero] at h
  rw [h]
theorem PostG.conseq {α β : Type} {c : Ctx} {σ : L2.St} {R : Hp → β → α → Prop} {o : Out α} {F H : Hp} {W : WX} {Q Q' : β → Hp → Prop} (h : PostG c σ R o F H W Q) (q : ∀ b H', Q b H' → Q' b H') : PostG c σ R o F H W Q' := by
  cases o with
  | ok a g => exact fun b F' H' e k r => q b H' (h b F' H' e k r)
  | exc n fs g => exact h
  | bad => exact h.elim
def eRevF (fa fi : EF) : EF := fun ρ g => (fa ρ g).bind fun x g1 => match x with
  | .list xs => (fi ρ g1).bind fun y g2 => match y with
    | .int i => .ok (.list (xs.take (rvN xs.length i)).reverse) g2
    | _ => .bad
  | _ => .bad
section
variable {X : Cx} {c : Ctx} {W : WX} {pos : Pos} {e lo : Expr} {fe fi : EF}
theorem Paired.take' {α β : Type} {r : α → β → Prop} : ∀ {xs : List α} {ys : List β} (n : Nat), Paired r xs ys → Paired r (xs.take n) (ys.take n)
  | _, _, 0, _ => .nil
  | _, _, _ + 1, .nil => .nil
  | _, _, n + 1, .cons h t => .cons h (Paired.take' n t)
theorem d_revF {k : Nat} {p1 p2 p3 : Pos} (hK : c.K = X.K) (he : DE X c W e fe) (hl : DE X c W lo fi) : DE X c W (.Subscript e (.Slice (some lo) none (some (.UnaryOp .USub (.Constant (.int 1) k p1) p2)) p3) pos) (eRevF fe fi) := by
  refine ⟨fun pins s σ H Q I ⟨F, ρ, g, sr, h⟩ => ?_⟩
  have w : tE c W fe σ H fun x H1 => ∃ a xs, x = .ref a ∧ H1 a = some (.lst xs) ∧ tE c W fi σ H1 fun y H2 => ∃ i, y = .int i ∧ H2 a = some (.lst xs) ∧ ∀ q, H2 q = none → Q (.ref q) (upd H2 q (.lst (xs.take (rvN xs.length i)).reverse)) :=
    ⟨F, ρ, g, sr, PostG.bind sr h fun x g1 v F1 H1 e1 s1 r1 h1 => by
      cases x with
      | list ds =>
        obtain ⟨a, vs, rfl, q1, q2⟩ := r1.list
        refine ⟨a, vs, rfl, s1.fh _ _ q1, F1, ρ, g1, s1, PostG.bind s1 h1 fun y g2 u F2 H2 e2 s2 r2 h2 => ?_⟩
        cases y with
        | int i =>
          cases r2.int
          refine ⟨i, rfl, s2.fh _ _ (e2.f _ _ q1), fun q n => ?_⟩
          have h2 : PostG c σ (Rep c) (.ok (.list (ds.take (rvN ds.length i)).reverse) g2) F2 H2 W Q := h2
          rw [q2.len]
          exact h2.newList s2 n (RqAll.rev ((RqAll_mono e2.f _ _ q2).take _))
        | _ => exact h2.elim
      | _ => exact h1.elim⟩
  refine Subscript_ (thn (he.run pins s σ H _ I w) fun v s1 ⟨x, H1, I1, r1, q1⟩ => ?_)
  obtain ⟨a, xs, ex, hx, q⟩ := q1
  subst ex
  cases r1
  have hst : PO X (some (.UnaryOp .USub (.Constant (.int 1) k p1) p2)) (tPart (tUn (rU fun i => .int (-i)) (tC (.int 1)))) := po_some (pe_un un_neg pe_int)
  have hlo : PO X (some lo) (tPart (tE c W fi)) := po_some hl
  refine wpAny_Slice (thn (hlo.run pins s1 σ H1 (fun o H2 => ∃ i, o = some i ∧ H2 a = some (.lst xs) ∧ ∀ q, H2 q = none → Q (.ref q) (upd H2 q (.lst (xs.take (rvN xs.length i)).reverse))) I1 ?_) fun vl s2 ⟨l, H2, I2, pl, i, el, hx2, q2⟩ => ?_)
  · obtain ⟨F', ρ', g', sr', h'⟩ := q
    exact ⟨F', ρ', g', sr', h'.conseq fun b H' ⟨i, e1, e2, e3⟩ => ⟨i, e1, i, rfl, e2, e3⟩⟩
  subst el
  refine thn (po_none.run pins s2 σ H2 (fun o H3 => o = none ∧ H3 = H2) I2 ⟨rfl, rfl⟩) fun vu s3 ⟨u, H3, I3, pu, eu, e3⟩ => ?_
  subst eu e3
  refine thn (hst.run pins s3 σ H3 (fun o H4 => o = some (-1) ∧ H4 = H3) I3 ⟨1, rfl, -1, rfl, rfl, rfl⟩) fun vs s4 ⟨o, H4, I4, ps, eo, e4⟩ => ?_
  subst eo e4
  have I5 : Inv X pins σ H4 { s4 with heap := s4.heap.push { cls := .type "slice", data := .fields #[vl, vu, vs] } } := I4.kept (t' := s4.toks) fun b ob q => Heap.get?_push_of_some _ q
  obtain ⟨its, r, ht, hz⟩ := I5.list (SqL.of hx2)
  have hlen := r.length
  show wpAny (model X.prog X.w) X.A (subscriptTail e (.Slice (some lo) none (some (.UnaryOp .USub (.Constant (.int 1) k p1) p2)) p3) (.ref a) (.ref s4.heap.objs.size)) (EP X pins σ Q) X.xe { s4 with heap := s4.heap.push { cls := .type "slice", data := .fields #[vl, vu, vs] } }
  refine tail_any (ops := [.ref a, .ref s4.heap.objs.size]) ht.isList.typeIs (PySem.slot_list_getitem.lookup) ?_ (by with_unfolding_all rfl)
  refine wpAny_getItem_list_slice ht.isList (Heap.IsSliceOf.new _ vl vu vs) pl pu ps (by decide) ?_ (by rw [List.size_toArray]; omega)
  rw [rv_pick]
  have ez : its.toArray.size = xs.length := by rw [List.size_toArray]; exact hlen.symm
  rw [ez]
  refine ⟨.ref _, _, I5.laid (t' := s4.toks) (o := .lst (xs.take (rvN xs.length i)).reverse) (fun b ob q => Heap.get?_push_of_some _ q) (Nat.le_refl _) ?_, rfl, q2 _ (I5.hok.fresh (Nat.le_refl _))⟩
  refine ⟨by rw [List.length_reverse, List.length_take]; omega, _, 0, Vals.reverse (Paired.take' _ r), Heap.get?_push_size _ rfl⟩
end
end DL
namespace DL
open PySem
open PySem.Spec
open PyProof.Rows
open L2
def stir (cell s : Int) : Int := ((cell * 48271 + s * 69621) % 2147483647 * 16807 + s * 7919) % 1000000007 / 7
def takeG (most : Int) (g : G) : Int × G :=
  let at_ := (g.1 % (g.2.length : Int)).toNat
  let cell := g.2.getD at_ 0
  if 1000000000000000000 ≤ cell then (cell % most, (g.1, g.2.set at_ (cell / most))) else (stir cell (g.1 + 1) % most, (g.1 + 1, g.2))
def m_take (ds : List D) (g : G) : Out D := match ds with
  | [.dict [(.none, .none)], .int most] => if most < 2 then .ok (.int 0) g else if most.natAbs.log2 < 9000 then .ok (.int (takeG most g).1) (takeG most g).2 else .bad
  | _ => .bad
theorem m_take_args {ds : List D} {g : G} (h : m_take ds g ≠ .bad) : ∃ most, ds = [tokD, .int most] ∧ m_take ds g = (if most < 2 then .ok (.int 0) g else if most.natAbs.log2 < 9000 then .ok (.int (takeG most g).1) (takeG most g).2 else .bad) := by
  unfold m_take at h ⊢
  split at h
  · rename_i most
    exact ⟨most, rfl, rfl⟩
  · exact absurd rfl h
theorem take_ok (most : Int) (g : G) (h : most < 2 ^ 200) : ∃ r g', m_take [tokD, .int most] g = .ok (.int r) g' ∧ 0 ≤ r ∧ (r < most ∨ r = 0) := by
  by_cases h2 : most < 2
  · refine ⟨0, g, ?_, Int.le_refl _, .inr rfl⟩
    show (if most < 2 then _ else _) = _
    rw [if_pos h2]
  · have hl : most.natAbs.log2 < 9000 := by
      have h1 : most.natAbs < 2 ^ 200 := by
        have e : ((2 : Int) ^ 200) = ((2 ^ 200 : Nat) : Int) := by rw [Int.natCast_pow]; rfl
        rw [e] at h
        omega
      exact Nat.lt_trans ((Nat.log2_lt (by omega)).mpr h1) (by decide)
    refine ⟨(takeG most g).1, (takeG most g).2, ?_, ?_, .inl ?_⟩
    · show (if most < 2 then _ else if _ then _ else _) = _
      rw [if_neg h2, if_pos hl]
    · unfold takeG
      dsimp only
      split
      · exact Int.emod_nonneg _ (by omega)
      · exact Int.emod_nonneg _ (by omega)
    · unfold takeG
      dsimp only
      split
      · exact Int.emod_lt_of_pos _ (by omega)
      · exact Int.emod_lt_of_pos _ (by omega)
theorem GOk.same {c : Ctx} {F H : Hp} {g : G} (k : GOk c F H g) (h : Same F H) : True := trivial
theorem Ext.st {sa sb p : Addr} {F H : Hp} {o : HO} (h : Same F H) (hp : p = sa ∨ p = sb) (hf : F p = none) : Ext sa sb F H F (upd H p o) where
  f := Same.refl F
  fh := fun b x e => by
    have n : b ≠ p := ne_of_none e hf
    rw [upd_ne n]
    exact h b x e
  keep := fun q x e n1 n2 => by
    have n : q ≠ p := by
      rcases hp with rfl | rfl
      · exact n1
      · exact n2
    rw [upd_ne n]
    exact e
  dom := fun q x e => by
    by_cases n : q = p
    · exact ⟨o, by rw [n, upd_same]⟩
    · exact ⟨x, by rw [upd_ne n]; exact e⟩
  ff := fun _ _ _ => rfl
theorem ixN0 {n : Nat} {k : Int} {j : Nat} (h : k = j) (hj : j < n) : ixN n k = some j := by
  unfold ixN
  rw [if_pos (by omega), if_pos (by omega)]
  congr 1
  omega
theorem atI0 {α : Type} {xs : List α} {k : Int} {j : Nat} {v : α} (h : k = j) (hv : xs[j]? = some v) : atI xs k = some v := by
  have hj : j < xs.length := by
    cases Nat.lt_or_ge j xs.length with
    | inl h => exact h
    | inr h => rw [List.getElem?_eq_none h] at hv; cases hv
  unfold atI
  rw [ixN0 h hj]
  exact hv
theorem rep_take {K : PySem.W.Frag} {cl : Str → Option Addr} {sa sb : Addr} {F H : Hp} {vs : List V} {most : Int} (r : RepAll (mkC K cl sa sb F H) F vs [tokD, .int most]) : vs = [.ref sa, .int most] := by
  cases r with
  | cons h1 t =>
    cases t with
    | cons h2 t =>
      cases t
      cases h2.int
      rcases h1 with h | ⟨⟨h, _⟩ | h, _⟩
      · cases h
      · rw [h]
      · exact h.notTok.elim
abbrev rMod : R2 := rI (fun _ j => 0 < j) fun i j => V.int (i % j)
abbrev tInt1 (t : TE) : TE := tCB (fun xs H Q => (∃ i, xs = [V.int i] ∧ Q (V.int i) H) ∨ ∃ k, xs = [V.bl k] ∧ Q (V.int (if k = true then 1 else 0)) H) (tCons t tNil)
abbrev rAdd0 : R2 := rI0 fun i j => V.int (i + j)
abbrev rMul0 : R2 := rI CMul fun i j => V.int (i * j)
def tTake (K : PySem.W.Frag) : TS :=
  tSeq (tIfS (tTest (tOp (rI0 fun i j => V.bl (decide (i < j))) (tVar 1) (tC (V.int 2)))) (tRet (tC (V.int 0))) tNext)
  (tSeq (tAsg (tOp (rIxL K) (tVar 0) (tC (V.int 1))) (gName 2))
  (tSeq (tAsg (tOp rMod (tInt1 (tOp (rIxL K) (tVar 0) (tC (V.int 0)))) (tCB (fun xs H Q => ∃ x n, xs = [x] ∧ LenV K x H n ∧ Q (V.int ↑n) H) (tCons (tVar 2) tNil))) (gName 3))
  (tSeq (tAsg (tOp (rIxL K) (tVar 2) (tVar 3)) (gName 4))
  (tSeq (tIfS (tTest (tOp (rI0 fun i j => V.bl (decide (j ≤ i))) (tVar 4) (tC (V.int 1000000000000000000))))
    (tSeq (tAsg (tOp (rI CDivW fun i j => V.int (i / j)) (tVar 4) (tVar 1)) (gSub (tVar 2) (tVar 3) rSetL)) (tRet (tOp rMod (tInt1 (tVar 4)) (tVar 1)))) tNext)
  (tSeq (tAsg (tOp rAdd0 (tOp (rIxL K) (tVar 0) (tC (V.int 0))) (tC (V.int 1))) (gSub (tVar 0) (tC (V.int 0)) rSetL))
  (tSeq (tAsg (tOp rMod (tInt1 (tOp rAdd0 (tOp rMul0 (tVar 4) (tC (V.int 48271))) (tOp rMul0 (tOp (rIxL K) (tVar 0) (tC (V.int 0))) (tC (V.int 69621))))) (tC (V.int 2147483647))) (gName 5))
  (tSeq (tAsg (tOp rMod (tInt1 (tOp rAdd0 (tOp rMul0 (tVar 5) (tC (V.int 16807))) (tOp rMul0 (tOp (rIxL K) (tVar 0) (tC (V.int 0))) (tC (V.int 7919))))) (tC (V.int 1000000007))) (gName 5))
  (tRet (tOp rMod (tInt1 (tOp (rI CDiv fun i j => V.int (i / j)) (tVar 5) (tC (V.int 7)))) (tVar 1))))))))))
theorem take_run {K : PySem.W.Frag} {cl : Str → Option Addr} {sa sb : Addr} {F H : Hp} {g : G} {most : Int} {Q : VK} {E : XK} {E' : Ends} (hE : E' = { nx := fun x H' => Q V.non H', rt := Q }) (h1 : Same F H) (h2 : GOk (mkC K cl sa sb F H) F H g)
    (h4 : CPost (mkC K cl sa sb F H) F H (if most < 2 then .ok (.int 0) g else if most.natAbs.log2 < 9000 then .ok (.int (takeG most g).1) (takeG most g).2 else .bad) Q E) {σ : L2.St} (hσ : σ = [some (.ref sa), some (.int most), none, none, none, none]) :
    tTake K E' σ H := by
  subst hE hσ
  have ha : H sa = some (.lst [.int g.1, .ref sb]) := h2.ha
  have hb : H sb = some (.lst (g.2.map V.int)) := h2.hb
  have fa : F sa = none := h2.fa
  have fb : F sb = none := h2.fb
  have ne : sa ≠ sb := h2.ne
  have wf : g.2 ≠ [] := h2.wf
  have hl : 0 < g.2.length := List.length_pos_iff.mpr wf
  refine ⟨.int most, rfl, most, 2, rfl, rfl, _, rfl, ite2 (fun e => ?_) (fun e => ?_)⟩
  · have e : most < 2 := of_decide_eq_true e
    rw [if_pos e] at h4
    exact h4 _ F H (Ext.refl h1) h2 rInt
  · have e : ¬ most < 2 := fun z => e (decide_eq_true z)
    rw [if_neg e] at h4
    by_cases hw : most.natAbs.log2 < 9000
    · rw [if_pos hw] at h4
      have pos : 0 < most := by omega
      refine ⟨.ref sa, rfl, sa, _, 1, .ref sb, rfl, rfl, SqL.of ha, rfl, ?_⟩
      refine ⟨.ref sa, rfl, sa, _, 0, .int g.1, rfl, rfl, SqL.of ha, rfl, .inl ⟨g.1, rfl, ?_⟩⟩
      have hp : (0 : Int) < g.2.length := by omega
      refine ⟨.ref sb, rfl, .ref sb, g.2.length, rfl, .inl ⟨_, SqL.of hb, by rw [List.length_map]⟩, g.1, g.2.length, rfl, rfl, hp, ?_⟩
      have hj : (g.1 % (g.2.length : Int)).toNat < g.2.length := by
        have := Int.emod_lt_of_pos g.1 hp
        have := Int.emod_nonneg g.1 (show (g.2.length : Int) ≠ 0 by omega)
        omega
      generalize hjj : (g.1 % (g.2.length : Int)).toNat = j at hj
      have hk : g.1 % (g.2.length : Int) = (j : Int) := by
        have := Int.emod_nonneg g.1 (show (g.2.length : Int) ≠ 0 by omega)
        omega
      dsimp only
      rw [hk]
      have hc : (g.2.map V.int)[j]? = some (.int (g.2.getD j 0)) := by
        rw [List.getElem?_map, List.getElem?_eq_getElem hj, List.getD_eq_getElem?_getD, List.getElem?_eq_getElem hj]
        rfl
      refine ⟨.ref sb, rfl, .int (j : Int), rfl, sb, _, j, .int (g.2.getD j 0), rfl, rfl, SqL.of hb, atI0 rfl hc, ?_⟩
      have et : takeG most g = if 1000000000000000000 ≤ g.2.getD j 0 then (g.2.getD j 0 % most, (g.1, g.2.set j (g.2.getD j 0 / most))) else (stir (g.2.getD j 0) (g.1 + 1) % most, (g.1 + 1, g.2)) := by
        unfold takeG
        rw [hjj]
      generalize g.2.getD j 0 = cell at et hc
      refine ⟨.int cell, rfl, cell, 1000000000000000000, rfl, rfl, _, rfl, ite2 (fun e2 => ?_) (fun e2 => ?_)⟩
      · have e2 : 1000000000000000000 ≤ cell := of_decide_eq_true e2
        rw [if_pos e2] at et
        rw [et] at h4
        refine ⟨.int cell, rfl, .int most, rfl, cell, most, rfl, rfl, ⟨pos, hw⟩, .ref sb, rfl, .int (j : Int), rfl, sb, _, j, j, rfl, rfl, hb, ixN0 rfl (by rw [List.length_map]; exact hj), ?_⟩
        refine ⟨.int cell, rfl, .inl ⟨cell, rfl, .int most, rfl, cell, most, rfl, rfl, pos, ?_⟩⟩
        have em : (g.2.map V.int).set j (.int (cell / most)) = (g.2.set j (cell / most)).map V.int := by rw [List.map_set]
        dsimp only
        rw [em]
        refine h4 _ F _ (Ext.st h1 (.inr rfl) fb) ⟨ne, ?_, upd_same, fa, fb, ?_⟩ rInt
        · show (upd H sb _) sa = _
          rw [upd_ne ne]
          exact ha
        · intro z
          have z1 := congrArg List.length z
          rw [List.length_set] at z1
          have z2 : g.2.length = 0 := z1
          omega
      · have e2 : ¬ 1000000000000000000 ≤ cell := fun z => e2 (decide_eq_true z)
        rw [if_neg e2] at et
        rw [et] at h4
        have hL : ([V.int g.1, .ref sb] : List V).set 0 (.int (g.1 + 1)) = [.int (g.1 + 1), .ref sb] := rfl
        refine ⟨.ref sa, rfl, sa, _, 0, .int g.1, rfl, rfl, SqL.of ha, rfl, g.1, 1, rfl, rfl, .ref sa, rfl, sa, _, 0, 0, rfl, rfl, ha, rfl, ?_⟩
        dsimp only
        rw [hL]
        have ha2 : (upd H sa (.lst [.int (g.1 + 1), .ref sb])) sa = some (.lst [.int (g.1 + 1), .ref sb]) := upd_same
        refine ⟨.int cell, rfl, cell, 48271, rfl, rfl, .inr (by decide), .ref sa, rfl, sa, _, 0, .int (g.1 + 1), rfl, rfl, SqL.of ha2, rfl, g.1 + 1, 69621, rfl, rfl, .inr (by decide), _, _, rfl, rfl, .inl ⟨_, rfl, _, 2147483647, rfl, rfl, (by decide : (0 : Int) < 2147483647), ?_⟩⟩
        refine ⟨_, rfl, _, 16807, rfl, rfl, .inr (by decide), .ref sa, rfl, sa, _, 0, .int (g.1 + 1), rfl, rfl, SqL.of ha2, rfl, g.1 + 1, 7919, rfl, rfl, .inr (by decide), _, _, rfl, rfl, .inl ⟨_, rfl, _, 1000000007, rfl, rfl, (by decide : (0 : Int) < 1000000007), ?_⟩⟩
        refine ⟨_, rfl, _, 7, rfl, rfl, (by decide : (0 : Int) < 7 ∧ (7 : Int) < 1073741824), .inl ⟨_, rfl, .int most, rfl, _, most, rfl, rfl, pos, ?_⟩⟩
        refine h4 _ F _ (Ext.st h1 (.inl rfl) fa) ⟨ne, upd_same, ?_, fa, fb, wf⟩ rInt
        show (upd H sa _) sb = _
        rw [upd_ne ne.symm]
        exact hb
    · rw [if_neg hw] at h4
      exact h4.elim
def spState (K : PySem.W.Frag) : Sp := fun vs H Q _ => ∃ (a : Addr) (ns : List Int), vs = [.ref a] ∧ SqL K H a (ns.map V.int) ∧ ns.length ≤ 63 ∧
  ∀ (sa sb : Addr) (cells : List Int) (H' : Hp), sa ≠ sb → H' sa = some (.lst [.int 0, .ref sb]) → H' sb = some (.lst (cells.map V.int)) → cells ≠ [] → Q (.ref sa) H'
theorem cut_ints (ns : List Int) (lo hi : Option Int) : ∃ ms : List Int, cutV (ns.map V.int) lo hi = ms.map V.int ∧ ms.length ≤ ns.length := by
  refine ⟨(ns.drop (HT.sIx ns.length 0 lo)).take (HT.sIx ns.length ns.length hi - HT.sIx ns.length 0 lo), ?_, ?_⟩
  · unfold cutV
    rw [List.length_map, ← List.map_drop, ← List.map_take]
  · rw [List.length_take, List.length_drop]
    omega
def tState (K : PySem.W.Frag) : TS :=
  tSeq (tAsg (tLc (iList K (tSl (rSlL K) (tVar 0) tNoPart (tPart (tC (V.int 63))))) (gName 2) tYes (tCB (fun xs H Q => ∃ i, xs = [V.int i] ∧ Q (V.int (if i < 0 then -i else i)) H) (tCons (tVar 2) tNil)) [2]) (gName 1))
  (tSeq (tIfS (tTest (tOp rEq (tCB (fun xs H Q => ∃ x n, xs = [x] ∧ LenV K x H n ∧ Q (V.int ↑n) H) (tCons (tVar 1) tNil)) (tC (V.int 0)))) (tAsg (tLst (tCons (tC (V.int 0)) tNil)) (gName 1)) tNext)
  (tRet (tLst (tCons (tC (V.int 0)) (tCons (tVar 1) tNil)))))
theorem state_run {K : PySem.W.Frag} {a : Addr} {ns : List Int} {H : Hp} {Q : VK} {E' : Ends} (hE : E' = { nx := fun x H' => Q V.non H', rt := Q }) (hS : SqL K H a (ns.map V.int)) (hl : ns.length ≤ 63)
    (h4 : ∀ (sa sb : Addr) (cells : List Int) (H' : Hp), sa ≠ sb → H' sa = some (.lst [.int 0, .ref sb]) → H' sb = some (.lst (cells.map V.int)) → cells ≠ [] → Q (.ref sa) H') {σ : L2.St} (hσ : σ = [some (.ref a), none, none]) : tState K E' σ H := by
  subst hE hσ
  have fin : ∀ (σ : L2.St) (H1 : Hp) (b : Addr) (cells : List Int), σ[1]? = some (some (.ref b)) → H1 b = some (.lst (cells.map V.int)) → cells ≠ [] → tRet (tLst (tCons (tC (V.int 0)) (tCons (tVar 1) tNil))) { nx := fun x H' => Q V.non H', rt := Q } σ H1 := by
    intro σ H1 b cells hb hb2 hc
    refine ⟨.ref b, hb, by rw [sizeLine_eq]; exact (by decide : 2 ≤ 16777216), fun p np => ?_⟩
    have n : b ≠ p := ne_of_none hb2 np
    refine h4 p b cells _ n.symm upd_same ?_ hc
    rw [upd_ne n]
    exact hb2
  obtain ⟨ms, em, lm⟩ := cut_ints ns none (some 63)
  refine ⟨.ref a, rfl, 63, rfl, a, _, rfl, hS, fun c nc => ?_⟩
  rw [em]
  refine ⟨c, rfl, ⟨_, SqL.of upd_same⟩, fun D nD => ?_⟩
  have ncD : c ≠ D := fun e => by rw [e, upd_same] at nD; cases nD
  refine ⟨fun i m H3 => i + m = ms.length ∧ H3 c = some (.lst (ms.map V.int)) ∧ ∃ acc : List Int, acc.length = i ∧ H3 D = some (.lst (acc.map V.int)), ⟨ms.length, by omega, by rw [upd_ne ncD]; exact upd_same, [], rfl, upd_same⟩, fun i m H3 ⟨e1, e2, acc, e3, e4⟩ => ?_⟩
  by_cases hi : i < ms.length
  · have gi : (ms.map V.int)[i]? = some (.int ms[i]) := by rw [List.getElem?_map, List.getElem?_eq_getElem hi]; rfl
    refine .inr ⟨⟨_, _, SqL.of e2, gi⟩, fun H' => H' c = some (.lst (ms.map V.int)) ∧ ∃ acc : List Int, acc.length = i + 1 ∧ H' D = some (.lst (acc.map V.int)), fun H' ⟨k1, k2⟩ => ⟨m - 1, by omega, by omega, k1, k2⟩, fun x H' ⟨eH, fx⟩ => ?_⟩
    subst eH
    have ex : x = .int ms[i] := Option.some.inj ((fx _ (SqL.of e2)).symm.trans gi)
    subst ex
    refine ⟨rfl, .int ms[i], rfl, ms[i], rfl, _, e4, ?_, ?_, acc ++ [if ms[i] < 0 then -ms[i] else ms[i]], ?_, ?_⟩
    · rw [List.length_map, sizeLine_eq]
      omega
    · rw [upd_ne ncD]
      exact e2
    · rw [List.length_append, e3]
      rfl
    · rw [upd_same, List.map_append]
      rfl
  · refine .inl ⟨⟨_, SqL.of e2, by rw [List.length_map]; omega⟩, ?_⟩
    refine ⟨.ref D, rfl, .ref D, _, rfl, .inl ⟨_, SqL.of e4, rfl⟩, rfl, _, rfl, ite2 (fun e => ?_) (fun e => ?_)⟩
    · refine ⟨by rw [sizeLine_eq]; decide, fun p np => ?_⟩
      exact fin _ _ p [0] rfl upd_same (by simp)
    · refine fin _ _ D acc rfl e4 fun z => ?_
      subst z
      exact e (decide_eq_true rfl)
def spLaw (K : PySem.W.Frag) : Sp := fun vs H Q _ => ∃ (a : Addr) (ns : List Int), vs = [.ref a] ∧ SqL K H a (ns.map V.int) ∧ ns.length ≤ 63 ∧ ∀ H', Q (.bl true) H'
def tRest (K : PySem.W.Frag) (cl : Str → Option Addr) (W : WX) (fb : SF) : TS := fun E σ H => ∃ sa sb F0 H0, tS (mkC K cl sa sb F0 H0) W fb E σ H
theorem rest_run {X : Cx} {K : PySem.W.Frag} {cl : Str → Option Addr} {W : WX} {sts : List Stmt} {fb : SF} (h : ∀ sa sb F0 H0, DSs X (mkC K cl sa sb F0 H0) W sts fb) : PSs X sts (tRest K cl W fb) :=
  ⟨fun pins s σ H E I ⟨sa, sb, F0, H0, w⟩ => (h sa sb F0 H0).run pins s σ H E I w⟩
theorem law_go {K : PySem.W.Frag} {cl : Str → Option Addr} {W : WX} {EE : L2.St → XK} {fb : SF} {a : Addr} {ns : List Int} {H : Hp} {Q : VK} {E' : Ends} {n : Nat} (hE : E' = { nx := fun _ H' => Q V.non H', rt := Q }) (hS : SqL K H a (ns.map V.int)) (hl : ns.length ≤ 63)
    (h4 : ∀ H', Q (.bl true) H') {σ : L2.St} (hσ : σ = some (.ref a) :: none :: List.replicate n none) (hm : ∀ cells : List Int, cells ≠ [] → ∃ g, fb (.un :: .d tokD :: List.replicate n .un) (0, cells) = .rt (.bool true) g) :
    tSeq (tAsg (tCallS (spState K) EE (tCons (tVar 0) tNil)) (gName 1)) (tRest K cl W fb) E' σ H := by
  subst hE hσ
  refine ⟨.ref a, rfl, a, ns, rfl, hS, hl, fun sa sb cells H' ne h1 h2 hc => ?_⟩
  obtain ⟨g, hg⟩ := hm cells hc
  refine ⟨sa, sb, fun _ => none, H', fun _ => none, .un :: .d tokD :: List.replicate n .un, (0, cells), ?_, ?_⟩
  · exact {
      ext := Ext.refl fun _ _ h => by cases h
      gok := ⟨ne, h1, h2, rfl, rfl, hc⟩
      g0 := ⟨_, _, h1, h2⟩
      len := by simp
      slots := fun i x e => by
        match i, e with
        | 0, e => cases e; trivial
        | 1, e => cases e; exact ⟨.ref sa, rfl, repTok⟩
        | i + 2, e =>
          have e : (List.replicate n SV.un)[i]? = some x := e
          rw [List.getElem?_replicate] at e
          split at e
          · cases e; trivial
          · cases e
      sep := fun i j xs ys b e => by
        match i, e with
        | 0, e => cases e
        | 1, e => cases e
        | i + 2, e =>
          have e : (List.replicate n SV.un)[i]? = some (.own xs) := e
          rw [List.getElem?_replicate] at e
          split at e
          · cases e
          · cases e }
  · rw [hg]
    exact fun σ' ρ' v F' H1 _ _ r => by
      cases r.bl
      exact h4 H1
end DL
namespace DL
open PySem
open PySem.Spec
open PyProof.Rows
open L2
section
variable {K : PySem.W.Frag} {mg : Str → Option Value} {h : Heap} {pr : Program}
abbrev df_mk {x : Str} {st : Stmt} {ps : List Str} {f : Addr} {oc : Value} {od an : Option Addr} {osl : Array (Option Value)} {kV doc pm cdv ct : Value} (X : K.In h) (G : h.Ns mainGlobals mg)
    (a : PySem.W.nsIn K mainGlobals x = some (some (.ref f))) (l : K.lookup f = some ⟨oc, od, .func (PySem.W.fnOf x x (defArgs st) (defBody st) (defScope st) .none kV doc pm an cdv ct), osl⟩)
    (c : PySem.W.codeIn K cdv x = true) (k : PySem.W.keepIn K (.ref f) = true)
    (hb : ∀ (kV doc pm : Value) (an : Option Addr) (cdv ct : Value) (us : List Value), us.length = ps.length → bindArgs (PySem.W.fnOf x x (defArgs st) (defBody st) (defScope st) .none kV doc pm an cdv ct) ⟨us, []⟩ = pure (ps.zip us)) : Df K mg x st ps where
  f := f
  fd := PySem.W.fnOf x x (defArgs st) (defBody st) (defScope st) .none kV doc pm an cdv ct
  F := fun_mk l c k
  b := (fun_mk l c k).binds hb
  g := PySem.W.mg_of X G a
theorem exm_of {C1 C : Addr} {b : Bool} (h1 : PySem.W.subIn K (.ref C) (.type "BaseException") = some true) (h2 : PySem.W.isClsIn K C = true) (h3 : PySem.W.typeIn K (.ref C) = some (.type "type")) (h4 : PySem.W.subIn K (.ref C1) (.ref C) = some b) :
    PySem.W.exmOne K (.ref C1) (.ref C) = some b := by
  have e1 : (PySem.W.subIn K (.ref C) (.type "BaseException") == some true) = true := by rw [h1] <;> rfl
  have e2 : ((PySem.W.clsIn K C).isSome && PySem.W.typeIn K (.ref C) == some (.type "type")) = true := by
    have h2' : (PySem.W.clsIn K C).isSome = true := h2
    rw [h2', h3] <;> rfl
  show (if (PySem.W.subIn K (.ref C) (.type "BaseException") == some true) = true then (if ((PySem.W.clsIn K C).isSome && PySem.W.typeIn K (.ref C) == some (.type "type")) = true then PySem.W.subIn K (.ref C1) (.ref C) else none) else none) = some b
  rw [if_pos e1, if_pos e2]
  exact h4
abbrev ex_mk {x fld msg qual : Str} {st : Stmt} {C f cc cda : Addr}
    {nm q : Str} {N : Addr} {bs bm : List Value} {sn : List Str} {sub : List Value} {ab : Bool} {col : Option Bool} {dd : Option Addr} {m0 m1 m2 m3 m5 : Option Value}
    {oc kV doc pm ct : Value} {od an : Option Addr} {osl : Array (Option Value)} {ccl : Value} {cdd : Option Addr} {vs : Array Value} {ccs : Array (Option Value)} {file : Str} {tf : Tok} {cl : Value} {cld : Option Addr} {csl : Array (Option Value)} {cd : ClassData}
    (X : K.In h) (G : h.Ns mainGlobals mg)
    (aC : PySem.W.nsIn K mainGlobals x = some (some (.ref C)))
    (xL : K.lookup C = some (excClassObj nm q C N bs bm true sn sub ab col dd m0 m1 m2 m3 m5 "ValueError.__new__")) (hbm : PySem.HandSPX.refsVE bm = true)
    (sa : PySem.W.findIn K (.ref C) "__setattr__" = some (some (.builtin "object.__setattr__"))) (exC : PySem.W.subIn K (.ref C) (.type "BaseException") = some true) (tyC : PySem.W.typeIn K (.ref C) = some (.type "type")) (kC : PySem.W.keepIn K (.ref C) = true)
    (ini : PySem.W.findIn K (.ref C) "__init__" = some (some (.ref f))) (tyf : PySem.W.typeIn K (.ref f) = some (.type "function"))
    (lf : K.lookup f = some ⟨oc, od, .func (PySem.W.ksFn "__init__" qual (defArgs st) (defBody st) (defScope st) .none kV doc pm an (.ref cda) ct cc), osl⟩) (cf : PySem.W.codeIn K (.ref cda) qual = true)
    (lc : K.lookup cda = some ⟨ccl, cdd, .fields vs, ccs⟩) (hv : vs[2]? = some (.str file tf)) (hfile : ((pr.main.file : Str) == file) = true)
    (lcell : K.lookup cc = some ⟨cl, cld, .cell (some (.ref C)), csl⟩) (hcls : PySem.W.clsIn K C = some cd) (hmro : PySem.W.mroIn K C (.ref C) = some true)
    (sup : PySem.W.ks_superIn K C C "__init__" = some (some (.builtin "ValueError.__init__"))) (subV : PySem.W.subIn K (.ref C) (.type "ValueError") = some true)
    (nosup : PySem.W.nsIn K mainGlobals "super" = some none) (noany : PySem.W.nsIn K PySem.cStatics "thirdparty.any" = some none) (top : (pr.main.scope.names.lookup ("super" : Str)).isSome = false)
    (fin : PySem.W.findIn K (.ref C) fld = some none)
    (ga : PySem.W.findIn K (.ref C) "__getattribute__" = some (some (.builtin "BaseException.__getattribute__"))) (gg : PySem.W.findIn K (.ref C) "__getattr__" = some none) (hdC : PySem.W.hasDictIn K C = true)
    (hb : ∀ (kV doc pm : Value) (an : Option Addr) (cdv ct : Value) (cc : Addr) (us : List Value), us.length = (["self", fld] : List Str).length → bindArgs (PySem.W.ksFn "__init__" qual (defArgs st) (defBody st) (defScope st) .none kV doc pm an cdv ct cc) ⟨us, []⟩ = pure ((["self", fld] : List Str).zip us)) : Ex K mg pr x fld msg st where
  C := C
  g := PySem.W.mg_of X G aC
  k := {
    f := f
    fd := PySem.W.ksFn "__init__" qual (defArgs st) (defBody st) (defScope st) .none kV doc pm an (.ref cda) ct cc
    T := ⟨⟨nm, q, N, bs, bm, sn, sub, ab, col, dd, m0, m1, m2, m3, m5, xL, hbm⟩, sa, exC, tyC, kC⟩
    cc := cc
    cda := cda
    ex := ⟨oc, od, kV, doc, pm, an, ct, osl, qual, rfl, lf, cf⟩
    code := ⟨ccl, cdd, vs, ccs, file, tf, lc, hv, hfile⟩
    cell := ⟨cl, cld, csl, lcell⟩
    cls := ⟨cd, hcls⟩
    mro := hmro
    sup := sup
    sub := subV
    nosup := nosup
    noany := noany
    top := top
    fin := fin
    ini := ini
    tf := tyf }
  b := .all (hb kV doc pm an (.ref cda) ct cc)
  xf := ⟨ga, gg, exC, hdC⟩
end
end DL
namespace DL
open PySem
open PySem.Spec
open PyProof.Rows
open L2
def tyN : D → Option String
  | .none => some "NoneType"
  | .bool _ => some "bool"
  | .int _ => some "int"
  | .str _ => some "str"
  | .list _ => some "list"
  | .tuple _ => some "tuple"
  | .dict _ => none
def isiD (T : String) (d : D) : Option Bool := (tyN d).bind fun t => kitB t T
def eIsi (T : String) (fe : EF) : EF := fun ρ g => (fe ρ g).bind fun x g1 => match isiD T x with
  | some b => .ok (.bool b) g1
  | none => .bad
theorem tyX_of {c : Ctx} {F H : Hp} (sm : Same F H) {v : V} {d : D} (r : Rep c F v d) {t : String} (ht : tyN d = some t) : TyX c.K H v (.type t) := by
  cases d with
  | none => cases r.non; cases ht; exact .base .non
  | bool b => cases r.bl; cases ht; exact .base (.bl b)
  | int i => cases r.int; cases ht; exact .base (.int i)
  | str z => cases r.str; cases ht; exact .base (.str z)
  | list xs =>
    obtain ⟨a, vs, rfl, h1, _⟩ := r.list
    cases ht
    exact .base (.lst (sm _ _ h1))
  | tuple xs =>
    obtain ⟨a, vs, rfl, h1, _⟩ := r.tuple
    cases ht
    rcases h1 with (h1 | ⟨o, h1⟩) | ⟨o, its, n, h1, h2, _⟩
    · exact .base (.tup (sm _ _ h1))
    · exact .fTuple (sm _ _ h1)
    · exact .kTuple h1 h2
  | dict _ => cases ht
section
variable {X : Cx} {c : Ctx} {W : WX} {pos p p2 : Pos} {x : Str} {e : Expr} {fe : EF} {T : String} {es : List Expr}
theorem d_isi (hK : c.K = X.K) (hg : Gl X "isinstance") (hm : X.mg "isinstance" = none) (ha : PA X (e :: es) (tCons (tE c W fe) (tCons (tC (.ty T)) tNil)))
    (he : starEach (e :: es) X.env = (false, eval e X.env) :: starEach es X.env := by rfl) (hpl : (backTo pos (starEach es X.env)).any (·.1) = false := by rfl) : DE X c W (.Call (.Name "isinstance" p) (e :: es) [] pos) (eIsi T fe) :=
  PE.imp (pe_callB call_isi hg hm (by decide +kernel) ha (by decide) (by decide) he hpl) fun σ H Q ⟨F, ρ, g, s, h⟩ => ⟨F, ρ, g, s, PostG.bind s h fun d g1 v F1 H1 e1 s1 r1 h1 => by
    split at h1
    · rename_i b hb
      unfold isiD at hb
      cases ht : tyN d with
      | none => rw [ht] at hb; cases hb
      | some t =>
        rw [ht] at hb
        refine ⟨v, .ty T, .type t, .type T, b, rfl, .ty T, ?_, kit_ty hb, h1.now s1 rBl⟩
        rw [← hK]
        exact tyX_of s1.fh r1 ht
    · exact h1.elim⟩
end
def rGetL (K : PySem.W.Frag) : V → V → Hp → VK → Prop := fun x y H Q => ∃ p xs i v, x = .ref p ∧ y = .int i ∧ SqL K H p xs ∧ atI xs i = some v ∧ Q v H
theorem get_list {X : Cx} : PGet X (rGetL X.K) := by
  intro pins s σ H x y v u Q I rx ry h
  obtain ⟨p, xs, i, z, rfl, rfl, hq, he, q⟩ := h
  cases rx
  obtain ⟨t, rfl⟩ := ry
  obtain ⟨its, r, pl, hz⟩ := I.list hq
  obtain ⟨j, h1, h2, h3, h4, h5⟩ := atI_get he
  obtain ⟨w, ew, rw'⟩ := r.get h2
  have hl := r.length
  have hn := line63
  have fin : EP X pins σ Q w s := ⟨z, H, I, rw', q⟩
  by_cases h0 : 0 ≤ i
  · have hj : i.toNat = j := by
      rw [seqIndex_of h0 h5] at h1
      exact Option.some.inj h1
    exact wpAny_getItem_list pl.isList h0 (by omega) (by rw [hj]; simpa using ew) fin
  · have hj : (i + (its.toArray.size : Int)).toNat = j := by
      rw [seqIndex_neg (by omega) h4] at h1
      rw [List.size_toArray, ← hl]
      exact Option.some.inj h1
    exact wpAny_getItem_list_neg pl.isList (by omega) (by rw [List.size_toArray] <;> omega) (by omega) (by rw [hj]; simpa using ew) fin
def sAugIx (i : Nat) (φ : Int → Int → Int) (fj fe : EF) : SF := fun ρ g => match ρ[i]? with
  | some (.own xs) => (fj ρ g).go ρ fun j g1 => match j with
    | .int n => match ixN xs.length n with
      | some m => match xs[m]? with
        | some (.int a) => (fe ρ g1).go ρ fun d g2 => match d with
          | .int b => .nx (ρ.set i (.own (xs.set m (.int (φ a b))))) g2
          | _ => .bad
        | _ => .bad
      | none => .bad
    | _ => .bad
  | _ => .bad
section
variable {X : Cx} {c : Ctx} {W : WX} {st : Stmt} {fe fj : EF} {φ : Int → Int → Int}
theorem ds_augIx {i : Nat} (hK : c.K = X.K) (h : PS X st (tAugS (tVar i) (tE c W fj) (tE c W fe) (rGetL X.K) (ipI φ) rSetL)) : DS X c W st (sAugIx i φ fj fe) := PS.imp h fun E σ H ⟨F, ρ, g, s, h⟩ => by
  unfold sAugIx at h
  split at h
  · rename_i xs hi
    obtain ⟨a, vs, k1, k2, k3, k4, k5⟩ := s.own hi
    refine ⟨.ref a, k1, F, ρ, g, s, go_post s h fun j g1 v F1 H1 e1 s1 r1 h1 => ?_⟩
    obtain ⟨a', vs1, m1, m2, m3, m4, m5⟩ := s1.own hi
    rw [k1] at m1
    cases m1
    cases j with
    | int n =>
      cases r1.int
      simp only at h1
      split at h1
      · rename_i m hm
        split at h1
        · rename_i a0 ha0
          obtain ⟨w, hw, rw0⟩ := m3.get ha0
          cases rw0
          refine ⟨a, vs1, n, .int a0, rfl, rfl, SqL.of m2, ?_, F1, ρ, g1, s1, go_post s1 h1 fun d g2 u F2 H2 e2 s2 r2 h2 => ?_⟩
          · unfold atI
            rw [m3.len, hm]
            exact hw
          · obtain ⟨a', vs2, q1, q2, q3, q4, q5⟩ := s2.own hi
            rw [k1] at q1
            cases q1
            cases d with
            | int b =>
              cases r2.int
              exact ⟨a0, b, rfl, rfl, a, vs2, n, m, rfl, rfl, q2, by rw [q3.len]; exact hm, h2.nx' (s2.updO hi k1 q2 q4 q5 (RqAll.set (.int (φ a0 b)) m q3))⟩
            | _ => exact h2.elim
        · exact h1.elim
      · exact h1.elim
    | _ => exact h1.elim
  · exact h.elim
end
def GlobD (K : PySem.W.Frag) (mg : Str → Option Value) (x : Str) (d : D) : Prop := ∃ (v : V) (u : Value), mg x = some u ∧ RelV v u ∧ ∀ F, Rq K F v d
theorem d_glob {X : Cx} {c : Ctx} {W : WX} {pos : Pos} {x : Str} {d : D} (hK : c.K = X.K) (hg : Gl X x) (h : GlobD X.K X.mg x d) (hdb : (x == ("__debug__" : Str)) = false := by decide) : DE X c W (.Name x pos) (eC d) := by
  obtain ⟨v, u, h1, h2, h3⟩ := h
  exact PE.imp (pe_glob hg h1 h2 hdb) fun σ H Q ⟨F, ρ, g, s, h⟩ => h.now s (.inl (by rw [hK]; exact h3 F))
theorem glob_int {K : PySem.W.Frag} {mg : Str → Option Value} {h : Heap} {x : Str} {i : Int} {t : Tok} (X : K.In h) (G : h.Ns mainGlobals mg) (a : PySem.W.nsIn K mainGlobals x = some (some (.int i t))) : GlobD K mg x (.int i) :=
  ⟨.int i, .int i t, PySem.W.mg_of X G a, ⟨t, rfl⟩, fun _ => .int i⟩
inductive IntVs : List Value → List Int → Prop
  | nil : IntVs [] []
  | cons {i : Int} {t : Tok} {us : List Value} {is : List Int} : IntVs us is → IntVs (.int i t :: us) (i :: is)
theorem IntVs.vals : ∀ {us : List Value} {is : List Int}, IntVs us is → Vals (is.map V.int) us
  | _, _, .nil => .nil
  | _, _, .cons (t := t) h => .cons ⟨t, rfl⟩ (IntVs.vals h)
theorem IntVs.len : ∀ {us : List Value} {is : List Int}, IntVs us is → us.length = is.length
  | _, _, .nil => rfl
  | _, _, .cons h => by rw [List.length_cons, List.length_cons, IntVs.len h]
theorem glob_tup {K : PySem.W.Frag} {mg : Str → Option Value} {h : Heap} {x : Str} {a : Addr} {dd : Option Addr} {us : List Value} {n : Nat} {sl : Array (Option Value)} {is : List Int} (X : K.In h) (G : h.Ns mainGlobals mg) (e : PySem.W.nsIn K mainGlobals x = some (some (.ref a)))
    (l : K.lookup a = some ⟨.type "tuple", dd, .seq us.toArray n, sl⟩) (hu : IntVs us is) (hl : is.length ≤ LIM) : GlobD K mg x (.tuple (is.map .int)) :=
  ⟨.ref a, .ref a, PySem.W.mg_of X G e, rfl, fun F => .tup (.inr ⟨_, us.toArray, n, l, rfl, rfl, by rw [List.size_toArray, hu.len]; exact lim_ok hl, hu.vals⟩) (dpInts is)⟩
end DL
namespace DL
open PySem
open PySem.Spec
open PyProof.Rows
open L2
theorem compF_exc {b : BF} {ft : TF} {fe : EF} {ρ : RS} : ∀ {xs : List D} {g : G} {n : Str} {fs : List (Str × D)} {g' : G}, compF b ft fe ρ xs g ≠ .exc n fs g'
  | [], _, _, _, _, h => by simp only [compF] at h; cases h
  | x :: xs, g, n, fs, g', h => by
    simp only [compF] at h
    split at h
    · cases h
    · split at h
      · split at h
        · split at h
          · rename_i d g2 _ _
            cases q : compF b ft fe ρ xs g2 with
            | ok r g3 => rw [q] at h; cases h
            | exc _ _ _ => exact compF_exc q
            | bad => rw [q] at h; cases h
          · cases h
        · cases h
      · exact compF_exc h
      · cases h
def compF2 (vs1 : List Nat) (b : BF) (ft : TF) (fi1 : LF) (b1 : BF) (ft1 : TF) (fe : EF) (ρ : RS) : List D → G → Out (List D)
  | [], g => .ok [] g
  | x :: xs, g => match b x ρ with
    | none => .bad
    | some ρ1 => match ft ρ1 g with
      | .ok true g1 => (match fi1 ρ1 g1 with
        | .ok items g2 => (compF b1 ft1 fe (wipeR ρ1 vs1) items g2).bind fun r g3 => (compF2 vs1 b ft fi1 b1 ft1 fe ρ xs g3).bind fun r2 g4 => .ok (r ++ r2) g4
        | _ => .bad)
      | .ok false g1 => compF2 vs1 b ft fi1 b1 ft1 fe ρ xs g1
      | _ => .bad
theorem compF2_exc {vs1 : List Nat} {b : BF} {ft : TF} {fi1 : LF} {b1 : BF} {ft1 : TF} {fe : EF} {ρ : RS} : ∀ {xs : List D} {g : G} {n : Str} {fs : List (Str × D)} {g' : G}, compF2 vs1 b ft fi1 b1 ft1 fe ρ xs g ≠ .exc n fs g'
  | [], _, _, _, _, h => by simp only [compF2] at h; cases h
  | x :: xs, g, n, fs, g', h => by
    unfold compF2 at h
    cases hb : b x ρ with
    | none => rw [hb] at h; cases h
    | some ρ1 =>
      simp only [hb] at h
      cases ht : ft ρ1 g with
      | bad => rw [ht] at h; cases h
      | exc a b c => rw [ht] at h; cases h
      | ok k g1 =>
        cases k with
        | false =>
          simp only [ht] at h
          exact compF2_exc h
        | true =>
          simp only [ht] at h
          cases hi : fi1 ρ1 g1 with
          | bad => rw [hi] at h; cases h
          | exc a b c => rw [hi] at h; cases h
          | ok items g2 =>
            simp only [hi] at h
            cases q : compF b1 ft1 fe (wipeR ρ1 vs1) items g2 with
            | bad => rw [q] at h; cases h
            | exc a b c => exact compF_exc q
            | ok r g3 =>
              rw [q] at h
              cases q2 : compF2 vs1 b ft fi1 b1 ft1 fe ρ xs g3 with
              | bad => simp only [Out.bind, q2] at h; cases h
              | exc a b c => exact compF2_exc q2
              | ok r2 g4 => simp only [Out.bind, q2] at h; cases h
def fin2 (ds : List D) (g : G) : Out (List D) := if ds.length ≤ LIM then .ok ds g else .bad
def oComp2 (vs vs1 : List Nat) (fi : LF) (b : BF) (ft : TF) (fi1 : LF) (b1 : BF) (ft1 : TF) (fe : EF) : OF' := fun ρ g => (fi ρ g).bind fun items g1 => (compF2 vs1 b ft fi1 b1 ft1 fe (wipeR ρ vs) items g1).bind fin2
structure MidB (c : Ctx) (F1 H1 F H : Hp) (g : G) (A : Addr) (acc : List D) (va : List V) : Prop where
  ext : Ext c.sa c.sb F1 H1 F H
  gok : GOk c F H g
  ha : H A = some (.lst va)
  fa : F A = none
  rq : RqAll c.K F va acc
theorem MidB.up {c : Ctx} {F1 H1 F H F' H' : Hp} {g g' : G} {A : Addr} {acc : List D} {va : List V} (m : MidB c F1 H1 F H g A acc va) (e : Ext c.sa c.sb F H F' H') (gk : GOk c F' H' g') (na : A ≠ c.sa) (nb : A ≠ c.sb) : MidB c F1 H1 F' H' g' A acc va :=
  ⟨m.ext.trans e, gk, e.keep A _ m.ha na nb, by rw [e.ff A _ m.ha]; exact m.fa, RqAll_mono e.f _ _ m.rq⟩
theorem MidB.add {c : Ctx} {F1 H1 F H : Hp} {g : G} {A : Addr} {acc : List D} {va : List V} (m : MidB c F1 H1 F H g A acc va) (nA : H1 A = none) (na : A ≠ c.sa) (nb : A ≠ c.sb) {y : V} {d : D} (r : Rq c.K F y d) : MidB c F1 H1 F (upd H A (.lst (va ++ [y]))) g A (acc ++ [d]) (va ++ [y]) := by
  refine ⟨⟨m.ext.f, fun q o z => ?_, fun q o z n k => ?_, fun q o z => ?_, m.ext.ff⟩, m.gok.ext rfl rfl (upd_ne na.symm) (upd_ne nb.symm), upd_same, m.fa, m.rq.append (.cons r .nil)⟩
  · rw [upd_ne (ne_of_none z m.fa)]; exact m.ext.fh q o z
  · rw [upd_ne (ne_of_none z nA)]; exact m.ext.keep q o z n k
  · rw [upd_ne (ne_of_none z nA)]; exact m.ext.dom q o z
def delH (H : Hp) (A : Addr) : Hp := fun q => if q = A then none else H q
theorem delH_ne {H : Hp} {A q : Addr} (h : q ≠ A) : delH H A q = H q := if_neg h
theorem delH_some {H : Hp} {A q : Addr} {o : HO} (h : delH H A q = some o) : q ≠ A ∧ H q = some o := by
  unfold delH at h
  split at h
  · cases h
  · rename_i n
    exact ⟨n, h⟩
def BOk (b : BF) : Prop := ∀ (x : D) (ρ ρ' : RS), b x ρ = some ρ' → ∀ (j : Nat) (ys : List D), ρ'[j]? = some (.own ys) → ρ[j]? = some (.own ys)
def BsOk (b : List D → RS → Option RS) : Prop := ∀ (x : List D) (ρ ρ' : RS), b x ρ = some ρ' → ∀ (j : Nat) (ys : List D), ρ'[j]? = some (.own ys) → ρ[j]? = some (.own ys)
theorem bok_name {i : Nat} : BOk (bName i) := fun x ρ ρ' h j ys hj => by
  cases h
  by_cases e : i = j
  · subst e
    by_cases hi : i < ρ.length
    · rw [List.getElem?_set_self hi] at hj; cases hj
    · rw [List.getElem?_eq_none (by rw [List.length_set]; omega)] at hj; cases hj
  · rw [List.getElem?_set_ne e] at hj
    exact hj
theorem bok_nil : BsOk bNil := fun x ρ ρ' h j ys hj => by
  unfold bNil at h
  split at h
  · cases h; exact hj
  · cases h
theorem bok_cons {b : BF} {bs : List D → RS → Option RS} (h1 : BOk b) (h2 : BsOk bs) : BsOk (bCons b bs) := fun x ρ ρ' h j ys hj => by
  unfold bCons at h
  split at h
  · obtain ⟨ρ1, e1, e2⟩ := Option.bind_eq_some_iff.mp h
    exact h1 _ _ _ e1 j ys (h2 _ _ _ e2 j ys hj)
  · cases h
theorem bok_tup {n : Nat} {bs : List D → RS → Option RS} (h2 : BsOk bs) : BOk (bTup n bs) := fun x ρ ρ' h j ys hj => by
  unfold bTup at h
  split at h
  · split at h
    · exact h2 _ _ _ h j ys hj
    · cases h
  · cases h
theorem wipeR_own {ρ : RS} {j : Nat} {ys : List D} : ∀ {vs : List Nat}, (wipeR ρ vs)[j]? = some (.own ys) → ρ[j]? = some (.own ys) ∧ j ∉ vs
  | [], h => ⟨h, by simp⟩
  | v :: vs, h => by
    unfold wipeR at h
    by_cases e : v = j
    · subst e
      by_cases hi : v < (wipeR ρ vs).length
      · rw [List.getElem?_set_self hi] at h; cases h
      · rw [List.getElem?_eq_none (by rw [List.length_set]; omega)] at h; cases h
    · rw [List.getElem?_set_ne e] at h
      obtain ⟨h1, h2⟩ := wipeR_own (vs := vs) h
      exact ⟨h1, fun z => (List.mem_cons.mp z).elim (fun q => e q.symm) h2⟩
theorem SR.delA {c : Ctx} {F H : Hp} {σ : L2.St} {ρ : RS} {g : G} {A : Addr} {va : List V} (s : SR c F H σ ρ g) (hA : H A = some (.lst va)) (fa : F A = none) (h0 : c.H0 A = none) (hno : ∀ (j : Nat) (ys : List D), ρ[j]? = some (.own ys) → σ[j]? ≠ some (some (.ref A))) : SR c F (delH H A) σ ρ g where
  ext := ⟨s.ext.f, fun q o z => by rw [delH_ne (ne_of_none z fa)]; exact s.ext.fh q o z, fun q o z n k => by rw [delH_ne (ne_of_none z h0)]; exact s.ext.keep q o z n k, fun q o z => by rw [delH_ne (ne_of_none z h0)]; exact s.ext.dom q o z, s.ext.ff⟩
  gok := by
    obtain ⟨n1, n2⟩ := s.ownNe h0
    exact s.gok.ext rfl rfl (delH_ne n1.symm) (delH_ne n2.symm)
  g0 := s.g0
  len := s.len
  slots := fun i x h => by
    have q := s.slots i x h
    cases x with
    | un => trivial
    | d x => exact q
    | own xs =>
      obtain ⟨a, vs, h1, h2, h3, h4, h5⟩ := q
      have n : a ≠ A := fun e => hno i xs h (by rw [h1, e])
      exact ⟨a, vs, h1, by rw [delH_ne n]; exact h2, h3, h4, h5⟩
    | ex fs =>
      obtain ⟨vs, h1, h2, h3⟩ := q
      have n : c.ed ≠ A := fun e => by rw [e, hA] at h2; cases h2
      exact ⟨vs, h1, by rw [delH_ne n]; exact h2, h3⟩
    | odc kvs =>
      obtain ⟨a, h1, h2, h3, h4⟩ := q
      have n : a ≠ A := fun e => by rw [e, hA] at h2; cases h2
      exact ⟨a, h1, by rw [delH_ne n]; exact h2, h3, h4⟩
  sep := s.sep
section
variable {X : Cx} {c : Ctx} {W : WX} {pos : Pos} {tg iter tg1 iter1 elt : Expr} {ifs ifs1 : List Expr} {scope : Scope} {own : List (Str × Nat)} {vs1 is is1 : List Nat} {fi fi1 : LF} {b b1 : BF} {ft ft1 : TF} {fe : EF}
theorem lc2_post (hbk : BOk b) {σ : L2.St} {ρ : RS} {items : List D} {vs : List Nat} {F1 H1 : Hp} {g1 : G} {Q : VK} {J : It} {A : Addr} (s1 : SR c F1 H1 σ ρ g1) (hJ : IterR c F1 J items) (nA : H1 A = none) (sub : ∀ i ∈ is, i ∈ vs) (sub1 : ∀ i ∈ is1, i ∈ vs1)
    (h : PostO c σ ((compF2 vs1 b ft fi1 b1 ft1 fe (wipeR ρ vs) items g1).bind fin2) F1 H1 W Q) :
    ∃ Wv : Nat → Nat → Hp → Prop, (∃ m, Wv 0 m (upd H1 A (.lst []))) ∧ ∀ i m H, Wv i m H → (J.stop i H ∧ Q (.ref A) H) ∨ (J.go i H ∧ ∃ Nx : Hp → Prop, (∀ H', Nx H' → ∃ m', m' < m ∧ Wv (i + 1) m' H') ∧ ∀ x H', J.yld i H x H' → tG c is b x (wipe σ vs) H' fun σ2 H2 => wipe σ2 vs = wipe σ vs ∧ tT c W0 ft σ2 H2 fun k H3 =>
      if k = true then tI c W0 fi1 σ2 H3 fun J1 H4 => ∃ W1 : Nat → Nat → Hp → Prop, (∃ m, W1 0 m H4) ∧ ∀ j k H, W1 j k H →
        (J1.stop j H ∧ Nx H) ∨ (J1.go j H ∧ ∃ Nx1 : Hp → Prop, (∀ H', Nx1 H' → ∃ k', k' < k ∧ W1 (j + 1) k' H') ∧ ∀ x H', J1.yld j H x H' → tG c is1 b1 x (wipe σ2 vs1) H' fun σ3 H5 => wipe σ3 vs1 = wipe σ2 vs1 ∧ tT c W0 ft1 σ3 H5 fun b H6 =>
          if b = true then tE c W0 fe σ3 H6 fun y H7 => ∃ acc, H7 A = some (.lst acc) ∧ acc.length < sizeLine ∧ Nx1 (upd H7 A (.lst (acc ++ [y]))) else Nx1 H6)
      else Nx H3) := by
  have nas : A ≠ c.sa := (ne_of_none s1.gok.ha nA).symm
  have nab : A ≠ c.sb := (ne_of_none s1.gok.hb nA).symm
  generalize hfull : (compF2 vs1 b ft fi1 b1 ft1 fe (wipeR ρ vs) items g1).bind fin2 = full at h
  have nbad : full ≠ .bad := fun e => by rw [e] at h; exact h
  refine ⟨fun i m H => ∃ F g va acc, m = items.length - i ∧ i ≤ items.length ∧ MidB c F1 H1 F H g A acc va ∧ full = (compF2 vs1 b ft fi1 b1 ft1 fe (wipeR ρ vs) (items.drop i) g).bind fun r g => fin2 (acc ++ r) g,
    ⟨items.length, F1, g1, [], [], by omega, Nat.zero_le _, ⟨Ext.newM s1.fh nA, s1.gok.newM nA, upd_same, s1.fnone nA, .nil⟩, ?_⟩, ?_⟩
  · rw [List.drop_zero, ← hfull]
    rfl
  rintro i m H ⟨F, g, va, acc, rfl, hi, M, eq⟩
  have sm : Same F1 H := M.ext.f.trans M.ext.fh
  by_cases hlt : i < items.length
  · have hd : items[i]? = some items[i] := List.getElem?_eq_getElem hlt
    have hdr : items.drop i = items[i] :: items.drop (i + 1) := List.drop_eq_getElem_cons hlt
    obtain ⟨go, yl⟩ := (hJ i H sm).1 _ hd
    rw [hdr] at eq
    refine .inr ⟨go, _, fun H' h => h, fun x H' y => ?_⟩
    obtain ⟨rfl, rx⟩ := yl x H' y
    have sw : SR c F H' (wipe σ vs) (wipeR ρ vs) g := (s1.wipe vs).ext' M.ext M.gok
    simp only [compF2] at eq
    cases hb : b items[i] (wipeR ρ vs) with
    | none => simp only [hb, Out.bind] at eq; exact absurd eq nbad
    | some ρ1 =>
      simp only [hb] at eq
      refine ⟨F, wipeR ρ vs, g, items[i], ρ1, sw, rx.mono M.ext.f, hb, fun σ2 s2 b2 => ⟨b2.wipe sub, F, ρ1, g, s2, ?_⟩⟩
      cases ht : ft ρ1 g with
      | bad => simp only [ht, Out.bind] at eq; exact absurd eq nbad
      | exc n fs g2 => simp only [ht, Out.bind] at eq; exact absurd eq nbad
      | ok k g2 =>
        intro k' F2 H2 e2 gk2 rk
        cases rk
        have s3 := s2.ext' e2 gk2
        have M2 := M.up e2 gk2 nas nab
        cases k with
        | false =>
          simp only [ht] at eq
          rw [if_neg Bool.false_ne_true]
          exact ⟨items.length - (i + 1), by omega, F2, g2, va, acc, rfl, hlt, M2, eq⟩
        | true =>
          simp only [ht] at eq
          rw [if_pos rfl]
          refine ⟨F2, ρ1, g2, s3, ?_⟩
          cases hi1 : fi1 ρ1 g2 with
          | bad => simp only [hi1, Out.bind] at eq; exact absurd eq nbad
          | exc n fs g3 => simp only [hi1, Out.bind] at eq; exact absurd eq nbad
          | ok items1 g3 =>
            simp only [hi1] at eq
            intro J1 F3 H3 e3 gk3 hJ1
            have s4 := s3.ext' e3 gk3
            have M3 := M2.up e3 gk3 nas nab
            refine ⟨fun j k H => ∃ F g va acc, k = items1.length - j ∧ j ≤ items1.length ∧ Ext c.sa c.sb F3 (delH H3 A) F H ∧ MidB c F1 H1 F H g A acc va ∧
              full = (compF b1 ft1 fe (wipeR ρ1 vs1) (items1.drop j) g).bind fun r g4 => (compF2 vs1 b ft fi1 b1 ft1 fe (wipeR ρ vs) (items.drop (i + 1)) g4).bind fun r2 g5 => fin2 (acc ++ (r ++ r2)) g5,
              ⟨items1.length, F3, g3, va, acc, by omega, Nat.zero_le _, ?_, M3, ?_⟩, ?_⟩
            · exact ⟨Same.refl F3, s4.fh, fun q o z _ _ => (delH_some z).2, fun q o z => ⟨o, (delH_some z).2⟩, fun q o z => rfl⟩
            · rw [List.drop_zero, eq]
              cases compF b1 ft1 fe (wipeR ρ1 vs1) items1 g3 with
              | bad => rfl
              | exc n fs g4 => rfl
              | ok r g4 =>
                simp only [Out.bind]
                cases compF2 vs1 b ft fi1 b1 ft1 fe (wipeR ρ vs) (items.drop (i + 1)) g4 with
                | bad => rfl
                | exc n fs g5 => rfl
                | ok r2 g5 => rfl
            · have h0A : c.H0 A = none := by
                cases q : c.H0 A with
                | none => rfl
                | some o =>
                  obtain ⟨o', q'⟩ := s1.ext.dom A o q
                  rw [q'] at nA
                  cases nA
              have s4d : SR c F3 (delH H3 A) σ2 ρ1 g3 := s4.delA M3.ha M3.fa h0A fun j ys hj he => by
                have h5 := hbk _ _ _ hb j ys hj
                obtain ⟨h6, h7⟩ := wipeR_own h5
                obtain ⟨a, vs', k1, k2, _⟩ := s1.own h6
                have k3 : (wipe σ vs)[j]? = σ[j]? := L2.wipe_out h7
                have k4 : σ2[j]? = (wipe σ vs)[j]? := b2.2 j fun z => h7 (sub j z)
                rw [k4, k3, k1] at he
                cases he
                rw [k2] at nA
                cases nA
              rintro j k H ⟨F4, g4, va4, acc4, rfl, hj, e4, M4, eq4⟩
              have sm1 : Same F3 H := e4.f.trans e4.fh
              by_cases hlt1 : j < items1.length
              · have hd1 : items1[j]? = some items1[j] := List.getElem?_eq_getElem hlt1
                have hdr1 : items1.drop j = items1[j] :: items1.drop (j + 1) := List.drop_eq_getElem_cons hlt1
                obtain ⟨go1, yl1⟩ := (hJ1 j H sm1).1 _ hd1
                rw [hdr1] at eq4
                refine .inr ⟨go1, _, fun H' h => h, fun x1 H' y1 => ?_⟩
                obtain ⟨rfl, rx1⟩ := yl1 x1 H' y1
                have sw1 : SR c F4 H' (wipe σ2 vs1) (wipeR ρ1 vs1) g4 := (s4d.wipe vs1).ext' e4 M4.gok
                simp only [compF] at eq4
                cases hb1 : b1 items1[j] (wipeR ρ1 vs1) with
                | none => simp only [hb1, Out.bind] at eq4; exact absurd eq4 nbad
                | some ρ2 =>
                  simp only [hb1] at eq4
                  refine ⟨F4, wipeR ρ1 vs1, g4, items1[j], ρ2, sw1, rx1.mono e4.f, hb1, fun σ3 s5 b5 => ⟨b5.wipe sub1, F4, ρ2, g4, s5, ?_⟩⟩
                  cases ht1 : ft1 ρ2 g4 with
                  | bad => simp only [ht1, Out.bind] at eq4; exact absurd eq4 nbad
                  | exc n fs g5 => simp only [ht1, Out.bind] at eq4; exact absurd eq4 nbad
                  | ok k g5 =>
                    intro k' F5 H5 e5 gk5 rk
                    cases rk
                    have s6 := s5.ext' e5 gk5
                    have M5 := M4.up e5 gk5 nas nab
                    cases k with
                    | false =>
                      simp only [ht1] at eq4
                      rw [if_neg Bool.false_ne_true]
                      exact ⟨items1.length - (j + 1), by omega, F5, g5, va4, acc4, rfl, hlt1, e4.trans e5, M5, eq4⟩
                    | true =>
                      simp only [ht1] at eq4
                      rw [if_pos rfl]
                      refine ⟨F5, ρ2, g5, s6, ?_⟩
                      cases he : fe ρ2 g5 with
                      | bad => simp only [he, Out.bind] at eq4; exact absurd eq4 nbad
                      | exc n fs g6 => simp only [he, Out.bind] at eq4; exact absurd eq4 nbad
                      | ok d g6 =>
                        simp only [he] at eq4
                        intro y F6 H6 e6 gk6 ry
                        have M6 := M5.up e6 gk6 nas nab
                        by_cases hn : noTok [d] = true
                        · rw [if_pos hn] at eq4
                          have rd := RepAll.rq (RepAll.cons ry .nil) hn
                          have rq1 : Rq c.K F6 y d := by
                            cases rd with
                            | cons q _ => exact q
                          have M7 := M6.add nA nas nab rq1
                          have e7 := (e4.trans e5).trans e6
                          have nD : delH H3 A A = none := if_pos rfl
                          have hacc : acc4.length < LIM := by
                            cases qa : compF b1 ft1 fe (wipeR ρ1 vs1) (items1.drop (j + 1)) g6 with
                            | bad => simp only [qa, Out.bind] at eq4; exact absurd eq4 nbad
                            | exc n fs g7 => exact absurd qa compF_exc
                            | ok r g7 =>
                              simp only [qa, Out.bind] at eq4
                              cases qb : compF2 vs1 b ft fi1 b1 ft1 fe (wipeR ρ vs) (items.drop (i + 1)) g7 with
                              | bad => simp only [qb] at eq4; exact absurd eq4 nbad
                              | exc n fs g8 => exact absurd qb compF2_exc
                              | ok r2 g8 =>
                                simp only [qb] at eq4
                                unfold fin2 at eq4
                                split at eq4
                                · rename_i hle
                                  simp only [List.length_append, List.length_cons] at hle
                                  omega
                                · exact absurd eq4 nbad
                          refine ⟨va4, M6.ha, lim_lt (by rw [M6.rq.len]; exact hacc), items1.length - (j + 1), by omega, F6, g6, va4 ++ [y], acc4 ++ [d], rfl, hlt1, ?_, M7, ?_⟩
                          · refine ⟨e7.f, fun q o z => ?_, fun q o z n m => ?_, fun q o z => ?_, e7.ff⟩
                            · rw [upd_ne (ne_of_none z M6.fa)]; exact e7.fh q o z
                            · rw [upd_ne (ne_of_none z nD)]; exact e7.keep q o z n m
                            · rw [upd_ne (ne_of_none z nD)]; exact e7.dom q o z
                          · rw [eq4]
                            cases compF b1 ft1 fe (wipeR ρ1 vs1) (items1.drop (j + 1)) g6 with
                            | bad => rfl
                            | exc n fs g7 => rfl
                            | ok r g7 =>
                              simp only [Out.bind]
                              cases compF2 vs1 b ft fi1 b1 ft1 fe (wipeR ρ vs) (items.drop (i + 1)) g7 with
                              | bad => rfl
                              | exc n fs g8 => rfl
                              | ok r2 g8 => simp only [List.append_assoc, List.cons_append, List.nil_append]
                        · rw [if_neg hn] at eq4
                          simp only [Out.bind] at eq4
                          exact absurd eq4 nbad
              · have e : j = items1.length := by omega
                rw [e, List.drop_length] at eq4
                simp only [compF, Out.bind, List.nil_append] at eq4
                exact .inl ⟨(hJ1 j H sm1).2 (by omega), items.length - (i + 1), by omega, F4, g4, va4, acc4, rfl, hlt, M4, eq4⟩
  · have e : i = items.length := by omega
    rw [e, List.drop_length] at eq
    simp only [compF2, Out.bind, List.append_nil] at eq
    have eq : full = fin2 acc g := eq
    unfold fin2 at eq
    by_cases hl : acc.length ≤ LIM
    · rw [if_pos hl] at eq
      rw [eq] at h
      exact .inl ⟨(hJ i H sm).2 (by omega), h A va F H M.ext M.gok M.ha M.fa nA M.rq⟩
    · rw [if_neg hl] at eq
      exact absurd eq nbad
variable {st : Stmt}
theorem lc2_imp (hbk : BOk b) (sub : ∀ i ∈ is, i ∈ own.map (·.2)) (sub1 : ∀ i ∈ is1, i ∈ vs1) (σ : L2.St) (H : Hp) (Q : VK) (w : tEo c W (oComp2 (own.map (·.2)) vs1 fi b ft fi1 b1 ft1 fe) σ H Q) : tLc2 (tI c W fi) (tG c is b) (tT c W0 ft) (tI c W0 fi1) (tG c is1 b1) (tT c W0 ft1) (tE c W0 fe) (own.map (·.2)) vs1 σ H Q := by
  obtain ⟨F, ρ, g, s, h⟩ := w
  exact ⟨F, ρ, g, s, PostO.bind s h fun items g1 J F1 H1 e1 s1 r1 h1 => fun A nA => lc2_post hbk s1 r1 nA sub sub1 h1⟩
theorem o_lc2 {pos : Pos} {elt tg iter tg1 iter1 : Expr} (hbk : BOk b) (hc : X.calm = true) (hN : X.N.Nodup) (hi : DI X c W tg iter fi) (ok : BlkOk X.N X.env.scope scope own) (hv : ∀ i ∈ vs1, i ∈ own.map (·.2)) (sub : ∀ i ∈ is, i ∈ own.map (·.2)) (sub1 : ∀ i ∈ is1, i ∈ vs1)
    (hg : ∀ (s : Shared) (H : Hp) (C : Addr) (cl : List (Str × Addr)) (fp : List Addr), DG (X.blk s H scope (compEnvC scope cl C X.env) fp) c is tg b) (ht : ∀ (s : Shared) (H : Hp) (C : Addr) (cl : List (Str × Addr)) (fp : List Addr), PTs (X.blk s H scope (compEnvC scope cl C X.env) fp) ifs (tT c W0 ft))
    (hi1 : ∀ (s : Shared) (H : Hp) (C : Addr) (cl : List (Str × Addr)) (fp : List Addr), DI (X.blk s H scope (compEnvC scope cl C X.env) fp) c W0 tg1 iter1 fi1)
    (hg1 : ∀ (s : Shared) (H : Hp) (C : Addr) (cl : List (Str × Addr)) (fp : List Addr), DG (X.blk s H scope (compEnvC scope cl C X.env) fp) c is1 tg1 b1) (ht1 : ∀ (s : Shared) (H : Hp) (C : Addr) (cl : List (Str × Addr)) (fp : List Addr), PTs (X.blk s H scope (compEnvC scope cl C X.env) fp) ifs1 (tT c W0 ft1))
    (he : ∀ (s : Shared) (H : Hp) (C : Addr) (cl : List (Str × Addr)) (fp : List Addr), DE (X.blk s H scope (compEnvC scope cl C X.env) fp) c W0 elt fe) (hs : ∀ x, foldedSetIterable iter X.env x = pure x := by intro _; rfl) (hs1 : ∀ env x, foldedSetIterable iter1 env x = pure x := by intro _ _; rfl) :
    DEo X c W (.ListComp elt [⟨tg, iter, ifs, 0⟩, ⟨tg1, iter1, ifs1, 0⟩] scope pos) (oComp2 (own.map (·.2)) vs1 fi b ft fi1 b1 ft1 fe) :=
  PE.imp (pe_lc2 hc hN hi ok hv hg ht hi1 hg1 ht1 he hs hs1) (lc2_imp hbk sub sub1)
theorem ds_lc2O {i : Nat} (hbk : BOk b) (sub : ∀ i ∈ is, i ∈ own.map (·.2)) (sub1 : ∀ i ∈ is1, i ∈ vs1) (h : PS X st (tAsg (tLc2 (tI c W fi) (tG c is b) (tT c W0 ft) (tI c W0 fi1) (tG c is1 b1) (tT c W0 ft1) (tE c W0 fe) (own.map (·.2)) vs1) (gName i))) : DS X c W st (sSetO i (oComp2 (own.map (·.2)) vs1 fi b ft fi1 b1 ft1 fe)) :=
  ds_setO (PS.imp h fun E σ H w => lc2_imp hbk sub sub1 σ H _ w)
theorem ds_lc2 {i : Nat} (hbk : BOk b) (sub : ∀ i ∈ is, i ∈ own.map (·.2)) (sub1 : ∀ i ∈ is1, i ∈ vs1) (h : PS X st (tAsg (tLc2 (tI c W fi) (tG c is b) (tT c W0 ft) (tI c W0 fi1) (tG c is1 b1) (tT c W0 ft1) (tE c W0 fe) (own.map (·.2)) vs1) (gName i))) : DS X c W st (sSet i (eOf (oComp2 (own.map (·.2)) vs1 fi b ft fi1 b1 ft1 fe))) :=
  ds_set (PS.imp h fun E σ H w => lc2_imp hbk sub sub1 σ H _ (of_imp σ H _ w))
end
end DL
namespace DL
open PySem
open PySem.Spec
open PyProof.Rows
open L2
section
variable {prog : Program} {w : World} {K : Type} [DecidableEq K] {knd : HeapKind prog w K} {A : Around} {E : Value → Shared → Prop} {s : Shared}
theorem samePairsH {nm : String} {a b : Addr} {xa xb : List (K × Addr × Value)} {Q : Bool → Shared → Prop} (ha : (a == sysModules) = false) (hb : (b == sysModules) = false) (hu : knd.room A)
    (da : s.heap.DictOfH knd a xa) (db : s.heap.DictOfH knd b xb) (hl : xa.length = xb.length)
    (hits : ∀ (i : Nat) (x : K × Addr × Value), xa[i]? = some x → ∃ (j : Nat) (p : Addr × Value), xb[j]? = some (x.1, p) ∧ SeqAt.EqAt A s x.2.2 p.2 true)
    (h : Q true s) : wpAny (model prog w) A (Builtin.Dict.samePairs nm a b) Q E s := by
  obtain ⟨oa, es, ep, hoa, _, hda, hea, hia, hna⟩ := da
  obtain ⟨ob, es', ep', hob, _, hdb, heb, hib, hnb⟩ := db
  have hla : es.size = xa.length := size_of_entries hea
  have hlb : es'.size = xb.length := size_of_entries heb
  have hsz : es.size = es'.size := by omega
  unfold Builtin.Dict.samePairs Builtin.Dict.showsAll
  rw [if_neg (show ¬ (a == sysModules) = true by rw [ha]; exact Bool.false_ne_true), if_neg (show ¬ (b == sysModules) = true by rw [hb]; exact Bool.false_ne_true)]
  refine wpAny_bind (wpAny_pure (wpAny_bind (wpAny_pure ?_)))
  refine wpAny_bind (wpAny_dictEntries hoa hda ?_)
  dsimp only
  refine wpAny_bind (wpAny_dictEntries hob hdb ?_)
  rw [if_neg (by rw [hsz]; simp)]
  refine wpAny_bind (wpAny_dictEpoch hoa hda ?_)
  refine wpAny_bind ?_
  rw [Std.Legacy.Range.forIn_eq_forIn_range']
  simp only [Std.Legacy.Range.size, Nat.sub_zero, Nat.add_sub_cancel, Nat.div_one]
  refine wpAny_forIn_list _
    (fun rest q s' => s' = s ∧ q = (none, ()) ∧ ∃ i, rest = List.range' i (es.size - i) ∧ i ≤ es.size)
    _ ?_ ?_ _ _ ⟨rfl, rfl, 0, by simp, Nat.zero_le _⟩
  · rintro x rest q s' ⟨rfl, rfl, i, hr, hi⟩
    have hlt : i < es.size := by
      rcases Nat.lt_or_ge i es.size with h | h
      · exact h
      · rw [Nat.sub_eq_zero_of_le h] at hr; simp at hr
    obtain ⟨rfl, hrest⟩ : x = i ∧ rest = List.range' (i + 1) (es.size - (i + 1)) := by
      have e : es.size - i = (es.size - (i + 1)) + 1 := by omega
      rw [e, List.range'_succ] at hr
      injection hr with h1 h2
      exact ⟨h1, h2⟩
    refine wpAny_bind (wpAny_dictEntries hoa hda ?_)
    rw [Array.getElem?_eq_getElem hlt]
    have hlt' : x < xa.length := by omega
    have hx : xa[x]? = some xa[x] := List.getElem?_eq_getElem hlt'
    have hent : es[x] = entryOfKey knd xa[x] := by
      have h1 := entry_at hea x
      rw [Array.getElem?_eq_getElem hlt, hx] at h1
      exact Option.some.inj h1
    obtain ⟨j, p, hj, he⟩ := hits x _ hx
    have hjl : j < es'.size := by
      have := (List.getElem?_eq_some_iff.mp hj).1
      omega
    have hej : es'[j]? = some (entryOfKey knd (xa[x].1, p)) := by rw [entry_at heb j, hj]; rfl
    have hm : xa[x] ∈ xa := List.mem_of_getElem? hx
    show wpAny _ _ (holding [es[x].key, es[x].val] _ >>= _) _ _ _
    rw [hent]
    show wpAny _ _ (holding [Value.ref xa[x].2.1, xa[x].2.2] _ >>= _) _ _ _
    refine wpAny_bind (wpAny_holding (wpAny_bind (wpAny_dictFind_heap hu (hia _ hm) hob hdb heb hib hnb (fun no => absurd hj (no j p)) fun j' p' hj' => ?_)))
    have ejj : j' = j ∧ p' = p := by
      have hn := hnb
      have h1 : (xb.map (·.1))[j']? = some xa[x].1 := by rw [List.getElem?_map, hj']; rfl
      have h2 : (xb.map (·.1))[j]? = some xa[x].1 := by rw [List.getElem?_map, hj]; rfl
      have h3 := (List.getElem?_inj (by rw [List.length_map]; exact (List.getElem?_eq_some_iff.mp hj').1) hn).mp (h1.trans h2.symm)
      subst h3
      rw [hj] at hj'
      injection hj' with h4
      injection h4 with _ h5
      exact ⟨rfl, h5.symm⟩
    obtain ⟨rfl, rfl⟩ := ejj
    refine wpAny_bind (wpAny_dictEntries hob hdb ?_)
    rw [hej]
    refine wpAny_holding (he prog w _ _ ?_)
    show wpAny _ _ (if (!true) = true then _ else _) _ _ _
    rw [if_neg (by decide)]
    refine wpAny_bind (wpAny_dictEpoch hoa hda ?_)
    rw [if_neg (by simp)]
    exact wpAny_pure ⟨rfl, rfl, x + 1, hrest, hlt⟩
  · rintro q s' ⟨rfl, rfl, i, hr, hi⟩
    exact wpAny_pure h
theorem eqH {neg : Bool} {a b : Addr} {xa xb : List (K × Addr × Value)} {Q : Value → Shared → Prop} (ha : (a == sysModules) = false) (hb : (b == sysModules) = false) (hu : A.units < cLine) (hr : knd.room A.in1)
    (da : s.heap.DictOfH knd a xa) (db : s.heap.DictOfH knd b xb) (hl : xa.length = xb.length)
    (hits : ∀ (i : Nat) (x : K × Addr × Value), xa[i]? = some x → ∃ (j : Nat) (p : Addr × Value), xb[j]? = some (x.1, p) ∧ SeqAt.EqAt A.in1 s x.2.2 p.2 true)
    (h : Q (.bool true) s) : wpAny (model prog w) A (compareOp .Eq (.ref a) (.ref b)) Q E s := by
  refine wpAny_richCompare_same_room (op := .Eq) da.typeIs db.typeIs PySem.F.slot_dict_eq (wpAny_call_entry PySem.F.slot_dict_eq da.typeIs PySem.F.entry_dict_eq ?_ (PySem.F.args_dict_eq_2 _ _)) hu
  show wpAny _ _ (Builtin.Dict.dictSlotArgs "__eq__" ⟨[.ref a, .ref b], []⟩ >>= _) _ _ s
  refine wpAny_bind ?_
  unfold Builtin.Dict.dictSlotArgs
  refine wpAny_bind (wpAny_notOrdered_dict da.typeIs ?_)
  show wpAny _ _ (pure (Value.ref a, Value.ref b)) _ _ s
  refine wpAny_pure ?_
  refine wpAny_bind (wpAny_isInstance (T := "dict") db.typeIs PySem.F.sub_dict_dict ?_)
  simp only [Bool.not_true, Bool.false_eq_true, if_false]
  refine wpAny_bind (wpAny_pure (wpAny_bind (wpAny_pure ?_)))
  refine wpAny_bind (samePairsH ha hb hr da db hl hits ?_)
  refine wpAny_pure ⟨_, rfl, ?_, ?_⟩
  · exact fun x => nomatch x
  · simpa using h
theorem neH {neg : Bool} {a b : Addr} {xa xb : List (K × Addr × Value)} {Q : Value → Shared → Prop} (ha : (a == sysModules) = false) (hb : (b == sysModules) = false) (hu : A.units < cLine) (hr : knd.room A.in1)
    (da : s.heap.DictOfH knd a xa) (db : s.heap.DictOfH knd b xb) (hl : xa.length = xb.length)
    (hits : ∀ (i : Nat) (x : K × Addr × Value), xa[i]? = some x → ∃ (j : Nat) (p : Addr × Value), xb[j]? = some (x.1, p) ∧ SeqAt.EqAt A.in1 s x.2.2 p.2 true)
    (h : Q (.bool false) s) : wpAny (model prog w) A (compareOp .NotEq (.ref a) (.ref b)) Q E s := by
  refine wpAny_richCompare_same_room (op := .NotEq) da.typeIs db.typeIs PySem.F.slot_dict_ne (wpAny_call_entry PySem.F.slot_dict_ne da.typeIs PySem.F.entry_dict_ne ?_ (PySem.F.args_dict_ne_2 _ _)) hu
  show wpAny _ _ (Builtin.Dict.dictSlotArgs "__ne__" ⟨[.ref a, .ref b], []⟩ >>= _) _ _ s
  refine wpAny_bind ?_
  unfold Builtin.Dict.dictSlotArgs
  refine wpAny_bind (wpAny_notOrdered_dict da.typeIs ?_)
  show wpAny _ _ (pure (Value.ref a, Value.ref b)) _ _ s
  refine wpAny_pure ?_
  refine wpAny_bind (wpAny_isInstance (T := "dict") db.typeIs PySem.F.sub_dict_dict ?_)
  simp only [Bool.not_true, Bool.false_eq_true, if_false]
  refine wpAny_bind (wpAny_pure (wpAny_bind (wpAny_pure ?_)))
  refine wpAny_bind (samePairsH ha hb hr da db hl hits ?_)
  refine wpAny_pure ⟨_, rfl, ?_, ?_⟩
  · exact fun x => nomatch x
  · simpa using h
end
theorem pget1 {α β : Type} {F : α → β → Prop} : ∀ {l₁ : List α} {l₂ : List β} {j : Nat} {x : α}, Paired F l₁ l₂ → l₁[j]? = some x → ∃ y, l₂[j]? = some y ∧ F x y
  | _, _, _, _, .nil, h => by simp at h
  | _, _, 0, _, .cons r _, h => by
    simp at h
    exact ⟨_, rfl, by rw [← h]; exact r⟩
  | _, _, j + 1, x, .cons _ t, h => by
    obtain ⟨y, h1, h2⟩ := pget1 (j := j) (x := x) t (by simpa using h)
    exact ⟨y, by simpa using h1, h2⟩
theorem pget2 {α β : Type} {F : α → β → Prop} : ∀ {l₁ : List α} {l₂ : List β} {j : Nat} {x : β}, Paired F l₁ l₂ → l₂[j]? = some x → ∃ y, l₁[j]? = some y ∧ F y x
  | _, _, _, _, .nil, h => by simp at h
  | _, _, 0, _, .cons r _, h => by
    simp at h
    exact ⟨_, rfl, by rw [← h]; exact r⟩
  | _, _, j + 1, x, .cons _ t, h => by
    obtain ⟨y, h1, h2⟩ := pget2 (j := j) (x := x) t (by simpa using h)
    exact ⟨y, by simpa using h1, h2⟩
section
variable {X : Cx}
def rEqT (b : Bool) : R2 := fun x y H Q => ∃ (p q : Addr) (ks ls : DK), x = .ref p ∧ y = .ref q ∧ H p = some (.dT (dKV ks)) ∧ H q = some (.dT (dKV ls)) ∧ ks.length = ls.length ∧ (∀ z ∈ ks, z ∈ ls) ∧ Q (.bl b) H
theorem hitsT {A : Around} {s : Shared} {H H' : Hp} {ks ls : DK} {xa xb : List (List L2.Key × Addr × Value)} (ra : KT H (dKV ks) xa) (rb : KT H' (dKV ls) xb) (hs : ∀ z ∈ ks, z ∈ ls) :
    ∀ (i : Nat) (x : List L2.Key × Addr × Value), xa[i]? = some x → ∃ (j : Nat) (p : Addr × Value), xb[j]? = some (x.1, p) ∧ SeqAt.EqAt A s x.2.2 p.2 true := by
  intro i x hx
  obtain ⟨y, h1, h2⟩ := pget2 ra hx
  rw [List.getElem?_map] at h1
  obtain ⟨z, hz, rfl⟩ := Option.map_eq_some_iff.mp h1
  obtain ⟨j, hj⟩ := List.getElem?_of_mem (hs z (List.mem_of_getElem? hz))
  obtain ⟨u, hu, h3⟩ := pget1 rb (j := j) (x := (z.1.map Sum.inl, V.int z.2)) (by rw [List.getElem?_map, hj]; rfl)
  refine ⟨j, u.2, ?_, ?_⟩
  · rw [hu, ← h2.1, h3.1]
  · obtain ⟨t, e1⟩ := (show ∃ t, x.2.2 = Value.int z.2 t from h2.2.2)
    obtain ⟨t', e2⟩ := (show ∃ t, u.2.2 = Value.int z.2 t from h3.2.2)
    rw [e1, e2]
    have := SeqAt.EqAt.int_int (A := A) (s := s) z.2 t z.2 t'
    rw [beq_self_eq_true] at this
    exact this
theorem op_eqT (hu : X.A.units + 1 < cLine) : OpR X (compareOp .Eq) (rEqT true) := by
  intro pins s σ H x y v u Q I rx ry h
  obtain ⟨a, b, ks, ls, rfl, rfl, ea, eb, hlen, hp, q⟩ := h
  obtain rfl : v = Value.ref a := rx
  obtain rfl : u = Value.ref b := ry
  obtain ⟨_, ya, xa, ra, da⟩ := dt_of I.hok ea
  obtain ⟨_, yb, xb, rb, db⟩ := dt_of I.hok eb
  have hl : xa.length = xb.length := by rw [← ra.length, ← rb.length, List.length_map, List.length_map]; exact hlen
  exact eqH (neg := true) ya yb (by omega) (tupleKind_room_in1 hu) da db hl (hitsT ra rb hp) ⟨.bl true, H, I, rfl, q⟩
theorem op_neT (hu : X.A.units + 1 < cLine) : OpR X (compareOp .NotEq) (rEqT false) := by
  intro pins s σ H x y v u Q I rx ry h
  obtain ⟨a, b, ks, ls, rfl, rfl, ea, eb, hlen, hp, q⟩ := h
  obtain rfl : v = Value.ref a := rx
  obtain rfl : u = Value.ref b := ry
  obtain ⟨_, ya, xa, ra, da⟩ := dt_of I.hok ea
  obtain ⟨_, yb, xb, rb, db⟩ := dt_of I.hok eb
  have hl : xa.length = xb.length := by rw [← ra.length, ← rb.length, List.length_map, List.length_map]; exact hlen
  exact neH (neg := true) ya yb (by omega) (tupleKind_room_in1 hu) da db hl (hitsT ra rb hp) ⟨.bl false, H, I, rfl, q⟩
end
def asDKs : List (D × D) → Option DK
  | [] => some []
  | (.tuple ks, .int n) :: r => match asInts ks, asDKs r with
    | some k, some kvs => some ((k, n) :: kvs)
    | _, _ => none
  | _ => none
def asDK : D → Option DK
  | .dict ps => asDKs ps
  | _ => none
theorem asDKs_of : ∀ kvs : DK, asDKs (kvs.map fun p => (.tuple (p.1.map .int), .int p.2)) = some kvs
  | [] => rfl
  | p :: r => by
    rw [List.map_cons, asDKs, asInts_map, asDKs_of r]
theorem asDK_of (kvs : DK) : asDK (dicD kvs) = some kvs := asDKs_of kvs
theorem Rep.dic {c : Ctx} {F : Hp} {v : V} {d : D} {kvs : DK} (h : Rep c F v d) (e : asDK d = some kvs) : ∃ a, v = .ref a ∧ F a = some (.dT (dKV kvs)) := by
  rcases h with h | ⟨⟨_, h⟩ | h, _⟩
  · cases d with
    | dict ps => cases h
    | _ => cases e
  · rw [h] at e; cases e
  · cases h with
    | dic kvs' h =>
      rw [asDK_of] at e
      cases e
      exact ⟨_, rfl, h⟩
    | rng lo hi h => cases e
def opEqD (b : Bool) (x y : D) (g : G) : Out D := match asDK x, asDK y with
  | some ks, some ls => if ks.length = ls.length ∧ ∀ z ∈ ks, z ∈ ls then .ok (.bool b) g else .bad
  | _, _ => .bad
section
variable {X : Cx} {c : Ctx} {W : WX} {pos : Pos} {a b : Expr} {fa fb : EF}
theorem k_eqD {k : Bool} : Keeps2 c W (rEqT k) (opEqD k) := by
  intro σ ρ g F H x y dx dy Q s rx ry h
  unfold opEqD at h
  split at h
  · rename_i ks ls e1 e2
    obtain ⟨⟨h1, h2⟩, h⟩ := h.ite
    obtain ⟨p, rfl, hp⟩ := rx.dic e1
    obtain ⟨q, rfl, hq⟩ := ry.dic e2
    exact ⟨p, q, ks, ls, rfl, rfl, s.fh _ _ hp, s.fh _ _ hq, h1, h2, h.now s rBl⟩
  · exact h.elim
theorem d_eqD (hu : X.A.units + 65 < cLine) (ha : DE X c W a fa) (hb : DE X c W b fb) : DC X c W (.Compare a [.Eq] [b] pos) (eBin (opEqD true) fa fb) := d_cmp (op_eqT (by omega)) k_eqD ha hb (nomark _)
theorem d_neD (hu : X.A.units + 65 < cLine) (ha : DE X c W a fa) (hb : DE X c W b fb) : DC X c W (.Compare a [.NotEq] [b] pos) (eBin (opEqD false) fa fb) := d_cmp (op_neT (by omega)) k_eqD ha hb (nomark _)
end
theorem SR.odc {c : Ctx} {F H : Hp} {σ : L2.St} {ρ : RS} {g : G} (s : SR c F H σ ρ g) {i : Nat} {kvs : DK} (h : ρ[i]? = some (.odc kvs)) : ∃ a, σ[i]? = some (some (.ref a)) ∧ H a = some (.dT (dKV kvs)) ∧ F a = none ∧ c.H0 a = none := s.slots i _ h
def noOdc : RS → Bool
  | [] => true
  | .odc _ :: _ => false
  | _ :: r => noOdc r
theorem noOdc_get : ∀ {ρ : RS} {i : Nat} {kvs : DK}, noOdc ρ = true → ρ[i]? ≠ some (.odc kvs)
  | [], _, _, _, h => by simp at h
  | .odc _ :: _, _, _, h, _ => by cases h
  | .un :: r, 0, _, _, h => by simp at h
  | .d _ :: r, 0, _, _, h => by simp at h
  | .own _ :: r, 0, _, _, h => by simp at h
  | .ex _ :: r, 0, _, _, h => by simp at h
  | .un :: r, i + 1, _, h, e => noOdc_get (ρ := r) (i := i) h (by simpa using e)
  | .d _ :: r, i + 1, _, h, e => noOdc_get (ρ := r) (i := i) h (by simpa using e)
  | .own _ :: r, i + 1, _, h, e => noOdc_get (ρ := r) (i := i) h (by simpa using e)
  | .ex _ :: r, i + 1, _, h, e => noOdc_get (ρ := r) (i := i) h (by simpa using e)
def sole (ρ : RS) (i : Nat) : Bool := noOdc (ρ.set i .un)
theorem sole_get {ρ : RS} {i j : Nat} {kvs : DK} (h : sole ρ i = true) (n : i ≠ j) : ρ[j]? ≠ some (.odc kvs) := by
  have := noOdc_get (i := j) (kvs := kvs) h
  rw [List.getElem?_set_ne n] at this
  exact this
theorem SR.updD {c : Ctx} {F H : Hp} {σ : L2.St} {ρ : RS} {g : G} (s : SR c F H σ ρ g) {i : Nat} {a : Addr} {kvs kvs' : DK} (h : ρ[i]? = some (.odc kvs)) (e : σ[i]? = some (some (.ref a))) (h1 : H a = some (.dT (dKV kvs))) (h2 : F a = none) (h3 : c.H0 a = none) (hs : sole ρ i = true) : SR c F (upd H a (.dT (dKV kvs'))) σ (ρ.set i (.odc kvs')) g where
  ext := {
    f := s.ext.f
    fh := fun p o q => by
      rw [upd_ne (ne_of_none q h2)]
      exact s.ext.fh p o q
    keep := fun p o q n m => by
      rw [upd_ne (ne_of_none q h3)]
      exact s.ext.keep p o q n m
    dom := fun p o q => by
      rw [upd_ne (ne_of_none q h3)]
      exact s.ext.dom p o q
    ff := s.ext.ff }
  gok := by
    obtain ⟨n1, n2⟩ := s.ownNe h3
    exact s.gok.ext rfl rfl (upd_ne n1.symm) (upd_ne n2.symm)
  g0 := s.g0
  len := by rw [List.length_set, s.len]
  slots := fun j y k => by
    by_cases hj : i = j
    · subst hj
      have hi : i < ρ.length := (List.getElem?_eq_some_iff.mp h).1
      rw [List.getElem?_set_self hi] at k
      cases k
      exact ⟨a, e, upd_same, h2, h3⟩
    · rw [List.getElem?_set_ne hj] at k
      have q := s.slots j y k
      cases y with
      | un => trivial
      | d x => exact q
      | own ys =>
        obtain ⟨b, ws, q1, q2, q3, q4, q5⟩ := q
        refine ⟨b, ws, q1, ?_, q3, q4, q5⟩
        rw [upd_ne fun z => by rw [z, h1] at q2; cases q2]
        exact q2
      | ex fs =>
        obtain ⟨ws, q1, q2, q3⟩ := q
        refine ⟨ws, q1, ?_, q3⟩
        rw [upd_ne fun z => by rw [z, h1] at q2; cases q2]
        exact q2
      | odc kk => exact absurd k (sole_get hs hj)
  sep := fun j k xs1 ys b k1 k2 k3 k4 => by
    obtain ⟨_, k1⟩ := set_own (fun _ e => by cases e) k1
    obtain ⟨_, k2⟩ := set_own (fun _ e => by cases e) k2
    exact s.sep j k xs1 ys b k1 k2 k3 k4
theorem SR.freezeD {c : Ctx} {F H : Hp} {σ : L2.St} {ρ : RS} {g : G} (s : SR c F H σ ρ g) {i : Nat} {a : Addr} {kvs : DK} (h : ρ[i]? = some (.odc kvs)) (e : σ[i]? = some (some (.ref a))) (h1 : H a = some (.dT (dKV kvs))) (h2 : F a = none) (h3 : c.H0 a = none) (hs : sole ρ i = true) : SR c (upd F a (.dT (dKV kvs))) H σ (ρ.set i (.d (dicD kvs))) g := by
  have sm : Same F (upd F a (.dT (dKV kvs))) := fun b o q => by rw [upd_ne (ne_of_none q h2)]; exact q
  obtain ⟨n1, n2⟩ := s.ownNe h3
  refine { ext := ?_, gok := s.gok.ext (upd_ne n1.symm) (upd_ne n2.symm) rfl rfl, g0 := s.g0, len := by rw [List.length_set, s.len], slots := fun j y k => ?_, sep := fun j k xs1 ys b k1 k2 k3 k4 => ?_ }
  · refine ⟨s.ext.f.trans sm, fun b o q => ?_, s.ext.keep, s.ext.dom, fun b o q => ?_⟩
    · by_cases hb : b = a
      · subst hb; rw [upd_same] at q; cases q; exact h1
      · rw [upd_ne hb] at q; exact s.ext.fh b o q
    · rw [upd_ne (ne_of_none q h3)]; exact s.ext.ff b o q
  · by_cases hj : i = j
    · subst hj
      have hi : i < ρ.length := (List.getElem?_eq_some_iff.mp h).1
      rw [List.getElem?_set_self hi] at k
      cases k
      exact ⟨.ref a, e, repDic upd_same⟩
    · rw [List.getElem?_set_ne hj] at k
      have q := s.slots j y k
      cases y with
      | un => trivial
      | d x =>
        obtain ⟨v, q1, q2⟩ := q
        exact ⟨v, q1, q2.mono sm⟩
      | own ys =>
        obtain ⟨b, ws, q1, q2, q3, q4, q5⟩ := q
        refine ⟨b, ws, q1, q2, RqAll_mono sm _ _ q3, ?_, q5⟩
        rw [upd_ne fun z => by rw [z, h1] at q2; cases q2]
        exact q4
      | ex fs =>
        obtain ⟨ws, q1, q2, q3⟩ := q
        exact ⟨ws, q1, q2, q3.mono sm⟩
      | odc kk => exact absurd k (sole_get hs hj)
  · obtain ⟨_, k1⟩ := set_own (fun _ e => by cases e) k1
    obtain ⟨_, k2⟩ := set_own (fun _ e => by cases e) k2
    exact s.sep j k xs1 ys b k1 k2 k3 k4
theorem SR.h0none {c : Ctx} {F H : Hp} {σ : L2.St} {ρ : RS} {g : G} (s : SR c F H σ ρ g) {p : Addr} (n : H p = none) : c.H0 p = none := by
  cases z : c.H0 p with
  | none => rfl
  | some o =>
    obtain ⟨o', z'⟩ := s.ext.dom p o z
    rw [n] at z'
    cases z'
def putD (kvs : DK) (k : List Int) (n : Int) : DK := if (kvs.any fun p => decide (p.1 = k)) = true then kvs.map (fun p => if p.1 = k then (p.1, n) else p) else kvs ++ [(k, n)]
theorem inl_inj {a b : List Int} : a.map (Sum.inl : Int → L2.Key) = b.map Sum.inl ↔ a = b :=
  ⟨fun h => (List.map_inj_right fun x y e => Sum.inl.inj e).mp h, fun h => by rw [h]⟩
theorem dKV_put (kvs : DK) (k : List Int) (n : Int) : dKV (putD kvs k n) = putK (dKV kvs) (k.map Sum.inl) (.int n) := by
  have e1 : ((dKV kvs).any fun kv => decide (kv.1 = k.map Sum.inl)) = (kvs.any fun p => decide (p.1 = k)) := by
    induction kvs with
    | nil => rfl
    | cons p r ih =>
      simp only [dKV, List.map_cons, List.any_cons] at ih ⊢
      rw [ih]
      congr 1
      exact decide_eq_decide.mpr inl_inj
  unfold putD putK
  rw [e1]
  split
  · simp only [dKV, List.map_map]
    refine List.map_congr_left fun p _ => ?_
    by_cases h : p.1 = k
    · simp [h]
    · have h' : ¬ p.1.map (Sum.inl : Int → L2.Key) = k.map Sum.inl := fun z => h (inl_inj.mp z)
      simp [h, h']
  · simp [dKV]
section
variable {X : Cx} {c : Ctx} {W : WX} {pos : Pos} {e : Expr} {es : List Expr} {st : Stmt} {sts : List Stmt} {fs : AF} {fe : EF} {f : SF}
theorem hu1 {A : Around} {k : Nat} (hr : Room k A) : A.units + 1 < cLine := by have := hr.un; omega
def sNewD (i : Nat) : SF := fun ρ g => .nx (ρ.set i (.odc [])) g
theorem ds_newD {i : Nat} (h : PS X st (tAsg tDNewT (gName i))) : DS X c W st (sNewD i) := PS.imp h fun E σ H ⟨F, ρ, g, s, h⟩ => fun p n =>
  h _ F _ (Same.refl F) ((s.newM n).setDic (kvs := []) upd_same (s.fnone n) (s.h0none n) i)
def vOwnD (fs : AF) : VF := fun ρ g => (fs ρ g).bind fun ds g1 => .ok (.odc [] :: ds.map .d) g1
theorem dv_ownD (ha : PE X e tDNewT) (hr : DA X c W es fs) (hs : starEach (e :: es) X.env = (false, eval e X.env) :: starEach es X.env := by rfl) : DVs X c W (e :: es) (vOwnD fs) :=
  PA.imp (pa_cons ha hr hs) fun σ H Q ⟨F, ρ, g, s, h⟩ => fun p n => by
    have e1 : Ext c.sa c.sb F H F (upd H p (.dT [])) := Ext.newM s.fh n
    have s1 := s.newM (o := .dT []) n
    refine ⟨F, ρ, g, s1, ?_⟩
    unfold vOwnD at h
    cases q2 : fs ρ g with
    | bad => simp only [q2, Out.bind] at h; exact h.elim
    | exc n fs g2 => simp only [q2, Out.bind] at h; exact fun C dx vs F2 H2 e2 gk hc hd hf => h C dx vs F2 H2 (e1.trans e2) gk hc hd hf
    | ok ds g2 =>
      simp only [q2, Out.bind] at h
      intro vs F2 H2 e2 gk r2
      have na : p ≠ c.sa := (ne_of_none s.gok.ha n).symm
      have nb : p ≠ c.sb := (ne_of_none s.gok.hb n).symm
      exact h (.ref p :: vs) F2 H2 (e1.trans e2) gk (.od (kvs := []) (e2.keep p _ upd_same na nb) (by rw [e2.ff p _ upd_same]; exact s.fnone n) n r2)
def sPutD (i : Nat) (fs : AF) (fe : EF) : SF := fun ρ g => match ρ[i]? with
  | some (.odc kvs) => (fe ρ g).go ρ fun d g1 => (fs ρ g1).go ρ fun ks g2 => match d, asInts ks with
    | .int n, some k => if kvs.length < LIM ∧ k.length < LIM ∧ sole ρ i = true then .nx (ρ.set i (.odc (putD kvs k n))) g2 else .bad
    | _, _ => .bad
  | _ => .bad
theorem repInts {c : Ctx} {F : Hp} : ∀ {vs : List V} {ns : List Int}, RepAll c F vs (ns.map .int) → vs = ns.map .int
  | _, [], h => by cases h; rfl
  | _, n :: ns, h => by
    cases h with
    | cons h t => cases h.int; rw [repInts t]; rfl
theorem ds_putD {i : Nat} (h : PS X st (sDPut (tVar i) (tTup (tAr c W fs)) (tE c W fe))) : DS X c W st (sPutD i fs fe) := PS.imp h fun E σ H ⟨F, ρ, g, s, h⟩ => by
  unfold sPutD at h
  split at h
  · rename_i kvs hi
    refine ⟨F, ρ, g, s, go_post s h fun x g1 v F1 H1 e1 s1 r1 h1 => ?_⟩
    obtain ⟨a, k1, _⟩ := s1.odc hi
    refine ⟨.ref a, k1, F1, ρ, g1, s1, go_post s1 h1 fun ks g2 vs F2 H2 e2 s2 r2 h2 => ?_⟩
    split at h2
    · rename_i n k ek
      obtain ⟨⟨l1, l2, hs⟩, h2⟩ := h2.ite
      rw [asInts_of ek] at r2
      cases repInts r2
      cases r1.int
      refine ⟨lim_ok (by rw [List.length_map]; exact Nat.le_of_lt l2), fun p np => ?_⟩
      obtain ⟨a', m1, m2, m3, m4⟩ := s2.odc hi
      rw [k1] at m1
      cases m1
      have s3 := s2.new (o := .tup (k.map .int)) np
      have m2' : upd H2 p (.tup (k.map .int)) a = some (.dT (dKV kvs)) := by rw [upd_ne (ne_of_none m2 np)]; exact m2
      have m3' : upd F2 p (.tup (k.map .int)) a = none := by rw [upd_ne (ne_of_none m2 np)]; exact m3
      have s4 := s3.updD (kvs' := putD kvs k n) hi k1 m2' m3' m4 hs
      refine ⟨a, _, rfl, DPut.t (k := k.map Sum.inl) m2' (by rw [upd_same, List.map_map]; rfl) (by rw [List.length_map]; exact lim_lt l1), ?_⟩
      rw [← dKV_put]
      exact h2 σ _ _ (s2.same np) s4
    · exact h2.elim
  · exact h.elim
def sFrzD (i : Nat) (f : SF) : SF := fun ρ g => match ρ[i]? with
  | some (.odc kvs) => if sole ρ i = true then f (ρ.set i (.d (dicD kvs))) g else .bad
  | _ => f ρ g
theorem dss_frzD {i : Nat} (h : DSs X c W sts f) : DSs X c W sts (sFrzD i f) := PSs.imp h fun E σ H ⟨F, ρ, g, s, h⟩ => by
  unfold sFrzD at h
  split at h
  · rename_i kvs hi
    obtain ⟨hs, h⟩ := h.ite
    obtain ⟨a, k1, k2, k4, k5⟩ := s.odc hi
    exact ⟨_, _, g, s.freezeD hi k1 k2 k4 k5 hs, SPost.up h fun b o q => by rw [upd_ne (ne_of_none q k4)]; exact q⟩
  · exact ⟨F, ρ, g, s, h⟩
end
section
variable {prog : Program} {w : World} {K : Type} [DecidableEq K] {knd : HeapKind prog w K} {A : Around} {E : Value → Shared → Prop} {s : Shared}
theorem dict_pairsX {env : Env} {keys : List (Option Expr)} {values : List Expr} {pos : Pos} {pairs : List (Sem Value × Sem Value)} {Q : Value → Shared → Prop} (hu : knd.room A)
    (hshape : (evalEachOpt keys env).zip ((evalEach values env).map fun v => do let x ← v; standAt pos; pure x) = pairs.map fun p => (some p.1, p.2)) (h0 : pairs ≠ []) (hlen : pairs.length ≤ 15)
    (h : wpAny (model prog w) A (evalPairs pairs) (fun vs s₁ => ∃ ps, CarriesH knd s₁.heap vs ps ∧ s₁.heap.DictOfH knd s.heap.objs.size [] ∧
      ∀ h' tk, h'.DictOfH knd s.heap.objs.size (storedAllH [] ps) → Heap.SameBut s.heap.objs.size s₁.heap h' → Q (.ref s.heap.objs.size) { s₁ with heap := h', toks := tk }) E
      { s with heap := s.heap.push { cls := .type "dict", data := .dict #[] } }) :
    wpAny (model prog w) A (eval (.Dict keys values pos) env) Q E s := by
  rw [arm_eval_Dict, hshape, dictDisplay_pairs pairs h0 (by omega)]
  exact wpAny_bind (wpAny_standAt (wpAny_bind (wpAny_subDictH (knd := knd) (Q := fun d s' => wpAny (model prog w) A (pure (Value.ref d)) Q E s') hu hlen
    (wpAny_mono h (fun vs s₁ h₁ => by obtain ⟨ps, hc, hm, hq⟩ := h₁; exact ⟨ps, hc, hm, fun h' tk a b => wpAny_pure (hq h' tk a b)⟩) fun _ _ e => e))))
end
def mergeD (acc : DK) (kvs : DK) : DK := kvs.foldl (fun acc p => putD acc p.1 p.2) acc
theorem length_mergeD : ∀ (kvs acc : DK), (mergeD acc kvs).length ≤ acc.length + kvs.length
  | [], acc => Nat.le_refl _
  | p :: r, acc => by
    have h1 := length_mergeD r (putD acc p.1 p.2)
    have h2 : (putD acc p.1 p.2).length ≤ acc.length + 1 := by
      unfold putD
      split
      · rw [List.length_map]; omega
      · rw [List.length_append, List.length_cons, List.length_nil]; omega
    show (mergeD (putD acc p.1 p.2) r).length ≤ _
    rw [List.length_cons]; omega
abbrev RPp (H : Hp) : List (V × V) → DK → Prop := Paired fun (p : V × V) (q : List Int × Int) => ∃ a, p.1 = .ref a ∧ H a = some (.tup (q.1.map .int)) ∧ p.2 = .int q.2
theorem carriesT {P : Program} {w : World} {H : Hp} {h : Heap} (ok : HOk P w H h) : ∀ {ps : List (V × V)} {kvs : DK} {ws : List (Value × Value)}, RPp H ps kvs → VV ps ws →
    ∃ rs : List (List L2.Key × Addr × Value), CarriesH (tupleKind (mixKind P w)) h ws rs ∧ KT H (dKV kvs) rs
  | _, _, _, .nil, r => by cases r; exact ⟨[], True.intro, .nil⟩
  | _, _, _, .cons (a := p) (b := q) ⟨a, e1, e2, e3⟩ t, r => by
    cases r with
    | @cons _ b as bs h1 t1 =>
      obtain ⟨rs, c, k⟩ := carriesT ok t t1
      obtain ⟨b1, b2⟩ := b
      rw [e1, e3] at h1
      obtain rfl : b1 = Value.ref a := h1.1
      have e2' : H a = some (.tup ((q.1.map Sum.inl : List L2.Key).map kV)) := by rw [e2, List.map_map]; rfl
      exact ⟨(q.1.map Sum.inl, a, b2) :: rs, ⟨rfl, rfl, key_of ok e2', c⟩, .cons ⟨rfl, e2', h1.2⟩ k⟩
theorem KT_merge {H : Hp} : ∀ {kvs : DK} {rs : List (List L2.Key × Addr × Value)} {acc : DK} {xs : List (List L2.Key × Addr × Value)}, KT H (dKV kvs) rs → KT H (dKV acc) xs → KT H (dKV (mergeD acc kvs)) (storedAllH xs rs)
  | [], _, _, _, .nil, q => q
  | p :: kvs, _, acc, xs, .cons (b := r) h t, q => by
    obtain ⟨r1, r2, r3⟩ := r
    obtain ⟨h1, h2, h3⟩ := h
    cases h1
    have e := q.put (p.1.map Sum.inl) h2 h3
    rw [← dKV_put] at e
    exact (show KT H (dKV (mergeD (putD acc p.1 p.2) kvs)) (storedAllH (storedH xs (p.1.map Sum.inl) r2 r3) _) from KT_merge (acc := putD acc p.1 p.2) (xs := storedH xs (p.1.map Sum.inl) r2 r3) t e)
def tDispT (tp : L2.St → Hp → (List (V × V) → Hp → Prop) → Prop) : TE := fun σ H Q => ∀ p, H p = none → tp σ (upd H p (.dT [])) fun ps H2 => H2 p = some (.dT []) ∧ ∃ kvs : DK, RPp H2 ps kvs ∧ kvs.length ≤ 15 ∧ Q (.ref p) (upd H2 p (.dT (dKV (mergeD [] kvs))))
theorem pe_dispT {X : Cx} {pos : Pos} {keys : List (Option Expr)} {values : List Expr} {trs : List (TE × TE)} (hu : X.A.units < cLine) (h : PPs X pos keys values trs) (hall : keys.all (·.isSome) = true) (hl : keys.length = values.length) (h0 : keys ≠ [])
    (h15 : keys.length ≤ 15) : PE X (.Dict keys values pos) (tDispT (tPairs trs)) := by
  refine ⟨fun pins s σ H Q I q => ?_⟩
  have hn := I.hok.fresh (Nat.le_refl s.heap.objs.size)
  have I1 := I.laid (a := s.heap.objs.size) (o := .dT []) (h' := s.heap.push { cls := .type "dict", data := .dict #[] }) (t' := s.toks) (fun _ _ q => Heap.get?_push_of_some _ q) (Nat.le_refl _) (dt_empty s.heap I.big)
  have hpn := pairTrees_length keys values X.env pos hall hl
  refine dict_pairsX (knd := tupleKind (mixKind X.prog X.w)) (pairs := pairTrees keys values X.env pos) hu (zip_pairTrees keys values X.env pos hall hl) (fun he => ?_) (by rw [hpn]; exact h15)
    (thn (h.run pins _ σ _ _ I1 (q _ hn)) fun ws s2 ⟨ps, H2, I2, rel, e, kvs, rp, lk, q2⟩ => ?_)
  · rw [he] at hpn
    exact h0 (List.length_eq_zero_iff.mp hpn.symm)
  obtain ⟨rs, c, rk⟩ := carriesT I2.hok rp rel
  obtain ⟨z, hd, xs0, r0, dd⟩ := dt_of I2.hok e
  cases r0
  refine ⟨rs, c, dd, fun h' tk dd' hs => ⟨.ref s.heap.objs.size, _, ?_, rfl, q2⟩⟩
  have hz : (dKV (mergeD [] kvs)).length ≤ sizeLine := by
    have h1 := length_mergeD kvs []
    rw [List.length_nil] at h1
    rw [List.length_map, sizeLine_eq]; omega
  obtain ⟨o, es, ep, ho, hc, hdd, hee, his, hnn⟩ := dd'
  have km : KT (upd H2 s.heap.objs.size (.dT (dKV (mergeD [] kvs)))) (dKV (mergeD [] kvs)) (storedAllH [] rs) := (KT_merge (acc := []) rk .nil).keeps fun b ys hb => by
    rw [upd_ne fun z => by rw [z, e] at hb; cases hb]
    exact hb
  exact d_write I2 (by rw [e]; exact True.intro) hs ⟨o, ho⟩ ⟨hz, hd, _, km, o, es, ep, ho, hc, hdd, hee, hnn⟩
abbrev PF := RS → G → Out DK
def pNil : PF := fun _ g => .ok [] g
def pCons (fa : AF) (fe : EF) (f : PF) : PF := fun ρ g => (fa ρ g).bind fun ks g1 => match asInts ks with
  | some k => if k.length ≤ LIM then (fe ρ g1).bind fun d g2 => match d with
    | .int n => (f ρ g2).bind fun kvs g3 => .ok ((k, n) :: kvs) g3
    | _ => .bad
    else .bad
  | none => .bad
def eDisp (f : PF) : EF := fun ρ g => (f ρ g).bind fun kvs g1 => if kvs.length ≤ 15 then .ok (dicD (mergeD [] kvs)) g1 else .bad
inductive PL (c : Ctx) (W : WX) : List (TE × TE) → PF → Prop
  | nil : PL c W [] pNil
  | cons {fa : AF} {fe : EF} {f : PF} {trs : List (TE × TE)} : PL c W trs f → PL c W ((tTup (tAr c W fa), tE c W fe) :: trs) (pCons fa fe f)
theorem RPp.mono {F F' : Hp} (e : Same F F') : ∀ {ps : List (V × V)} {kvs : DK}, RPp F ps kvs → RPp F' ps kvs := fun h => Paired.mapP h fun _ _ ⟨a, h1, h2, h3⟩ => ⟨a, h1, e _ _ h2, h3⟩
theorem pl_pairs {c : Ctx} {W : WX} {trs : List (TE × TE)} {f : PF} (h : PL c W trs f) : ∀ {σ : L2.St} {H : Hp} {Q : List (V × V) → Hp → Prop}, (∃ F ρ g, SR c F H σ ρ g ∧ PostG c σ (fun F ps kvs => RPp F ps kvs) (f ρ g) F H W Q) → tPairs trs σ H Q := by
  induction h with
  | nil => exact fun ⟨F, ρ, g, s, h⟩ => h.now s .nil
  | cons ht ih =>
    intro σ H Q ⟨F, ρ, g, s, h⟩
    refine ⟨F, ρ, g, s, PostG.bind s h fun ks g1 vs F1 H1 e1 s1 r1 h1 => ?_⟩
    split at h1
    · rename_i k ek
      obtain ⟨hl, h1⟩ := h1.ite
      rw [asInts_of ek] at r1
      cases repInts r1
      refine ⟨lim_ok (by rw [List.length_map]; exact hl), fun p np => ?_⟩
      have s2 := s1.new (o := .tup (k.map .int)) np
      refine ⟨_, ρ, g1, s2, PostG.bind s2 (h1.up (Ext.new s1.fh np)) fun d g2 v F3 H3 e3 s3 r3 h3 => ?_⟩
      split at h3
      · rename_i n
        cases r3.int
        refine ih ⟨F3, ρ, g2, s3, PostG.bind s3 h3 fun kvs g4 ps F4 H4 e4 s4 r4 h4 => ?_⟩
        exact h4.now s4 (.cons ⟨p, rfl, e4.f _ _ (e3.f _ _ upd_same), rfl⟩ r4)
      · exact h3.elim
    · exact h1.elim
theorem d_disp {X : Cx} {c : Ctx} {W : WX} {pos : Pos} {keys : List (Option Expr)} {values : List Expr} {trs : List (TE × TE)} {f : PF} (hu : X.A.units + 65 < cLine) (hp : PPs X pos keys values trs) (hf : PL c W trs f) (hall : keys.all (·.isSome) = true := by rfl) (hl : keys.length = values.length := by rfl) (h0 : keys ≠ [] := by simp)
    (h15 : keys.length ≤ 15 := by decide) : DE X c W (.Dict keys values pos) (eDisp f) := PE.imp (pe_dispT (by omega) hp hall hl h0 h15) fun σ H Q ⟨F, ρ, g, s, h⟩ => fun p np => by
  have e1 : Ext c.sa c.sb F H F (upd H p (.dT [])) := Ext.newM s.fh np
  have s1 := s.newM (o := .dT []) np
  refine pl_pairs hf ⟨F, ρ, g, s1, ?_⟩
  unfold eDisp at h
  cases q : f ρ g with
  | bad => simp only [q, Out.bind] at h; exact h.elim
  | exc n fs g1 => simp only [q, Out.bind] at h; exact fun C dx vs F2 H2 e2 gk hc hd hf => h C dx vs F2 H2 (e1.trans e2) gk hc hd hf
  | ok kvs g1 =>
    simp only [q, Out.bind] at h
    obtain ⟨h15', h⟩ := h.ite
    intro ps F2 H2 e2 gk rp
    have na : p ≠ c.sa := (ne_of_none s.gok.ha np).symm
    have nb : p ≠ c.sb := (ne_of_none s.gok.hb np).symm
    have hp2 : H2 p = some (.dT []) := e2.keep p _ upd_same na nb
    have fp2 : F2 p = none := by rw [e2.ff p _ upd_same]; exact s.fnone np
    have sm : Same F2 (upd F2 p (.dT (dKV (mergeD [] kvs)))) := fun b o z => by rw [upd_ne (ne_of_none z fp2)]; exact z
    refine ⟨hp2, kvs, RPp.mono e2.fh rp, h15', h (.ref p) (upd F2 p (.dT (dKV (mergeD [] kvs)))) _ ?_ (gk.ext (upd_ne na.symm) (upd_ne nb.symm) (upd_ne na.symm) (upd_ne nb.symm)) (repDic upd_same)⟩
    refine ⟨(e1.trans e2).f.trans sm, fun b o z => ?_, fun q o z n1 n2 => ?_, fun q o z => ?_, fun q o z => ?_⟩
    · by_cases hb : b = p
      · subst hb; rw [upd_same] at z ⊢; exact z
      · rw [upd_ne hb] at z ⊢; exact e2.fh b o z
    · rw [upd_ne (ne_of_none z np)]; exact (e1.trans e2).keep q o z n1 n2
    · rw [upd_ne (ne_of_none z np)]; exact (e1.trans e2).dom q o z
    · rw [upd_ne (ne_of_none z np)]; exact (e1.trans e2).ff q o z
theorem cr_range1 {X : Cx} : CallR X (.type "range") (fun vs H Q => ∃ j, vs = [V.int j] ∧ ∀ p, H p = none → Q (.ref p) (upd H p (.rng 0 j))) := by
  intro pins s σ H vs us Q I r h
  obtain ⟨j, rfl, q⟩ := h
  obtain ⟨u1, rfl, ri⟩ := vals1 r
  obtain ⟨t, rfl⟩ := ri
  refine call_range_1 ⟨.ref s.heap.objs.size, upd H s.heap.objs.size (.rng 0 j), I.laid (t' := s.toks + 1 + 1) (fun b o e => Heap.get?_push_of_some _ e) (Nat.le_refl _) ?_, rfl, q _ (I.hok.fresh (Nat.le_refl _))⟩
  exact ⟨s.toks, t, s.toks + 1, Heap.get?_push_size _ rfl⟩
def bRng (ds : List D) (g : G) : Out D := match ds with
  | [.int j] => .ok (rngD 0 j) g
  | _ => .bad
theorem kl_rng {c : Ctx} {W : WX} : KeepsL c W (fun vs H Q => ∃ j, vs = [V.int j] ∧ ∀ p, H p = none → Q (.ref p) (upd H p (.rng 0 j))) bRng := by
  intro σ ρ g F H vs ds Q s r h
  unfold bRng at h
  split at h
  · obtain ⟨v, rfl, rv⟩ := rep1 r
    cases rv.int
    exact ⟨_, rfl, fun p n => h _ _ _ (Ext.new s.fh n) (s.gok.new n) (repRng upd_same)⟩
  · exact h.elim
def asRng : D → Option (Int × Int)
  | .dict [(.none, .int lo), (.none, .int hi)] => some (lo, hi)
  | _ => none
theorem Rep.rng {c : Ctx} {F : Hp} {v : V} {d : D} {p : Int × Int} (h : Rep c F v d) (e : asRng d = some p) : ∃ a, v = .ref a ∧ F a = some (.rng p.1 p.2) := by
  rcases h with h | ⟨⟨_, h⟩ | h, _⟩
  · cases d with
    | dict ps => cases h
    | _ => cases e
  · rw [h] at e; cases e
  · cases h with
    | dic kvs h =>
      match kvs, e with
      | [], e => cases e
      | [_], e => cases e
      | _ :: _ :: _, e => cases e
    | rng lo hi h => cases e; exact ⟨_, rfl, h⟩
def iRngO (te : TE) : TI := fun σ H R => te σ H fun x H1 => ∃ a lo hi, x = .ref a ∧ H1 a = some (.rng lo hi) ∧ (-(2 ^ 62) ≤ lo ∧ lo < 2 ^ 62 ∧ -(2 ^ 62) ≤ hi ∧ hi < 2 ^ 62) ∧ R (Itr lo (hi - lo).toNat) H1
theorem pi_rngV {X : Cx} {tg e : Expr} {te : TE} (he : PE X e te) : PI X tg e (iRngO te) := by
  refine ⟨fun pins s σ H R I h => ?_⟩
  refine thn (he.run pins s σ H _ I h) fun v s1 ⟨x, H1, I1, r1, q1⟩ => ?_
  obtain ⟨a, lo, hi, e, ha, ⟨b1, b2, b3, b4⟩, q⟩ := q1
  subst e
  cases r1
  obtain ⟨t, u, v, ho⟩ := I1.hok a _ ha
  refine wpAny_pyIter_range (show IsRange s1.heap a lo hi 1 t u v from ho) (small_one b1 b2 b3 b4) ?_
  refine ⟨s1.heap.objs.size, [s1.heap.objs.size], _, _, H1, rfl, I1.kept (t' := s1.toks) fun b o e => Heap.get?_push_of_some _ e, turn_range _ lo (hi - lo).toNat, ?_, fun b hb => ?_, q⟩
  · have e1 : lo + ((0 : Nat) : Int) * 1 = lo := by simp
    have e2 : (((hi - lo).toNat : Nat) : Int) - ((0 : Nat) : Int) = Builtin.Range.rangeSize lo hi 1 := by rw [rangeSize_one]; split <;> omega
    show IsRangeIter _ _ (lo + ((0 : Nat) : Int) * 1) ((((hi - lo).toNat : Nat) : Int) - ((0 : Nat) : Int)) 1
    rw [e1, e2]
    exact Heap.get?_push_size _ rfl
  · have e : b = s1.heap.objs.size := by simpa using hb
    subst e
    exact I1.fpOk (Nat.le_refl _) (I1.hok.fresh (Nat.le_refl _))
def iRngV (fe : EF) : LF := fun ρ g => (fe ρ g).bind fun x g1 => match asRng x with
  | some p => if -(2 ^ 62) ≤ p.1 ∧ p.1 < 2 ^ 62 ∧ -(2 ^ 62) ≤ p.2 ∧ p.2 < 2 ^ 62 then .ok (upTo p.1 (p.2 - p.1).toNat) g1 else .bad
  | none => .bad
theorem di_rngV {X : Cx} {c : Ctx} {W : WX} {tg e : Expr} {fe : EF} (ha : DE X c W e fe) : DI X c W tg e (iRngV fe) := PI.imp (pi_rngV ha) fun σ H R ⟨F, ρ, g, s, h⟩ => ⟨F, ρ, g, s, PostG.bind s h fun x g1 v F1 H1 e1 s1 r1 h1 => by
  split at h1
  · rename_i p ep
    obtain ⟨hb, h1⟩ := h1.ite
    obtain ⟨a, rfl, ha⟩ := r1.rng ep
    exact ⟨a, p.1, p.2, rfl, s1.fh _ _ ha, hb, h1.now s1 iter_r⟩
  · exact h1.elim⟩
def bUnl (n : Nat) (bs : List D → RS → Option RS) : BF := fun x ρ => match x with
  | .list xs => if xs.length = n then bs xs ρ else none
  | _ => none
theorem dg_unl {X : Cx} {c : Ctx} {pos : Pos} {es : List Expr} {k n : Nat} {bs : List D → RS → Option RS} (hK : c.K = X.K) (hc : X.calm = true) {is : List Nat} (h : DGs X c is es bs) (hn : (assignEach es X.env).length = n := by rfl) (hst : (assignEach es X.env).findIdx? (·.1) = none := by rfl) : DG X c is (.Tuple es k pos) (bUnl n bs) :=
  PG.imp (pg_unl hc h hn hst) fun v σ H Q ⟨F, ρ, g, x, ρ', s, r, e, q⟩ => by
    cases x with
    | list xs =>
      obtain ⟨a, vs, rfl, h1, h2⟩ := r.list
      simp only [bUnl] at e
      split at e
      · rename_i hl
        exact ⟨a, vs, rfl, SqL.of (s.fh _ _ h1), by rw [h2.len]; exact hl, F, ρ, g, xs, ρ', s, h2, e, q⟩
      · cases e
    | _ => cases e
def eIndex (fo fe : EF) : EF := fun ρ g => (fo ρ g).bind fun x g1 => match x with
  | .list xs => (fe ρ g1).bind fun y g2 => match y, asInts xs with
    | .int n, some ns => match ns.findIdx? (fun m => m == n) with
      | some j => .ok (.int (j : Nat)) g2
      | none => .bad
    | _, _ => .bad
  | _ => .bad
theorem flat_ints (ns : List Int) : (ns.map V.int).all flatV = true := by
  induction ns with
  | nil => rfl
  | cons n ns ih => rw [List.map_cons, List.all_cons, ih]; rfl
theorem d_index {X : Cx} {c : Ctx} {W : WX} {e : Expr} {fo fe : EF} (hK : c.K = X.K) (h : PE X e (tBM X.K "list" (rIndex X.K) (tE c W fo) (tCons (tE c W fe) tNil))) : DE X c W e (eIndex fo fe) := PE.imp h fun σ H Q ⟨F, ρ, g, s, h⟩ => by
  refine ⟨F, ρ, g, s, PostG.bind s h fun x g1 v F1 H1 e1 s1 r1 h1 => ?_⟩
  cases x with
  | list xs =>
    obtain ⟨a, vs, rfl, q1, q2⟩ := r1.list
    refine ⟨.inl ⟨rfl, vs, SqL.of (s1.fh _ _ q1)⟩, F1, ρ, g1, s1, PostG.bind s1 h1 fun y g2 u F2 H2 e2 s2 r2 h2 => ?_⟩
    split at h2
    · rename_i n ns en
      split at h2
      · rename_i j hj
        cases r2.int
        have q3 := RqAll_mono e2.f _ _ q2
        rw [asInts_of en] at q3
        have q4 := RqAll.ints q3
        obtain ⟨hlt, h3, h4⟩ := List.findIdx?_eq_some_iff_getElem.mp hj
        refine ⟨a, vs, .int n, j, .int ns[j], rfl, rfl, SqL.of (s2.fh _ _ (e2.f _ _ q1)), rfl, by rw [q4]; exact flat_ints ns, by rw [q4, List.getElem?_map, List.getElem?_eq_getElem hlt]; rfl, h3, fun m z hm hz => ?_, h2.now s2 rInt⟩
        rw [q4, List.getElem?_map] at hz
        obtain ⟨k, hk, rfl⟩ := Option.map_eq_some_iff.mp hz
        have hml : m < ns.length := by omega
        rw [List.getElem?_eq_getElem hml] at hk
        cases hk
        have h5 := h4 m hm
        have h6 : ns[m] ≠ n := by simpa using h5
        simp [eqV, h6]
      · exact h2.elim
    · exact h2.elim
  | _ => exact h1.elim
end DL
namespace DL
open PySem
open PySem.Spec
open PyProof.Rows
open L2
def wAsM (K : PySem.W.Frag) (Wout : WX) (D : Ends) : List (Value × Nat × (Addr → Value → Option Addr → TS)) → WX
  | [] => Wout
  | (c, i, ts) :: r => wAs K c i ts (wAsM K Wout D r) D
inductive HdsAs (X : Cx) : List ExceptHandler → List (Value × Nat × (Addr → Value → Option Addr → TS)) → Prop
  | nil : HdsAs X [] []
  | cons {x n : Str} {c : Value} {i : Nat} {ts : Addr → Value → Option Addr → TS} {b₀ : Stmt} {suite : List Stmt} {np pos' : Pos} {hds : List ExceptHandler} {l : List (Value × Nat × (Addr → Value → Option Addr → TS))} (hi : X.N[i]? = some n) (hln : X.env.kindOf n = some .local) (hc : Names X x c)
      (hsu : ∀ (a : Addr) (oe : Obj) (cls : Value) (d : Option Addr) (pn : List (Addr × Obj)), Zc cls d oe → (∃ vs, oe.data = .fields vs) → PSs (X.suite a ((a, oe) :: pn)) (b₀ :: suite) (ts a cls d)) (r : HdsAs X hds l) :
      HdsAs X (.ExceptHandler (some (.Name x np)) (some n) (b₀ :: suite) pos' :: hds) ((c, i, ts) :: l)
section
variable {X : Cx} {body : List Stmt} {h₀ : ExceptHandler} {hds : List ExceptHandler} {l : List (Value × Nat × (Addr → Value → Option Addr → TS))} {pos : Pos} {tb : WX → TS} {Wout : WX}
theorem ps_try_asM (hs : X.stack = X.env :: X.outer) (hf : X.env.frame = some X.env.locals) (hN : X.N.Nodup) (tk : Takes X Wout)
    (hb : ∀ (W : WX) (pn : List (Addr × Obj)) (xe : Value → Shared → Prop), Takes (X.tr pn xe) W → PassesOwn (model X.prog X.w) X.A X.env xe → PSs (X.tr pn xe) body (tb W))
    (hh : HdsAs X (h₀ :: hds) l) : PS X (.Try body (h₀ :: hds) [] [] pos) (fun D σ H => tb (wAsM X.K Wout D l) D σ H) := by
  refine ⟨fun pins s σ H D I h => ?_⟩
  have ok := I.ok
  have hfr : X.A.frames = some (X.env :: X.outer) := by rw [ok.frames, hs]
  refine wpAny_Try_except ?_
  refine wpAny_mono ((hb (wAsM X.K Wout D l) (X.pn ++ pins) (fun e s₁ => wpAny (model X.prog X.w) X.A (noteFrame e X.env) (fun _ s₂ => wpAny (model X.prog X.w) X.A (setFlight e none) (fun _ s₃ =>
    wpAny (model X.prog X.w) X.A (handleBy e X.env (h₀ :: hds)) (SP X pins D) X.xe s₃) X.xe s₂) X.xe s₁) (fun u s' xx => ?_) PassesOwn.looking).run [] s σ H D (I.toTry _) h) (fun f s1 hsp => ?_) (fun e s1 he => he)
  · obtain ⟨a, B, sI, pins', σ', H', cls, d, rfl, J', nb, up, sky, na, os, ag, w⟩ := xx
    have J : Inv X pins σ' H' sI := J'.ofTry ok
    have sky' : Sky B (X.env :: X.outer) a (Zc cls d) X.env.locals s'.heap := by rw [← hs]; exact sky
    show wpAny (model X.prog X.w) X.A (noteFrame (.ref a) X.env) _ _ _
    refine Sky.land Zc.steady hfr hf sky' fun h3 fl3 up3 => ?_
    have J3 : Inv X pins σ' H' { s' with heap := h3 } := J.landed nb fl3.1 (up.trans up3) os ag
    obtain ⟨oe3, vs3, he3, hz3, hd3⟩ := fl3.there
    have notFr : ∀ {h : Heap} {o : Obj} {vs : Array Value}, h.FunFrames B (X.env :: X.outer) → h.get? a = some o → o.data = .fields vs → a ∉ frs (X.env :: X.outer) := fun {h o vs} ff e dd hm => by
      obtain ⟨_, o', e', hnf⟩ := ff.mem hm
      rw [e] at e'; cases e'
      exact hnf _ dd
    have nfr := notFr fl3.2.2.1 he3 hd3
    have nL : a ≠ X.env.locals := fun z => nfr (List.mem_filterMap.mpr ⟨X.env, List.mem_cons_self, by rw [hf, z]⟩)
    have nF : a ∉ X.fs := fun hm => by
      obtain ⟨e, he, q⟩ := List.mem_filterMap.mp hm
      exact nfr (List.mem_filterMap.mpr ⟨e, List.mem_cons_of_mem _ he, q⟩)
    have S3 := J3.suite he3 hd3 na nL nF
    have go : ∀ {hds' : List ExceptHandler} {l' : List (Value × Nat × (Addr → Value → Option Addr → TS))}, HdsAs X hds' l' → wAsM X.K Wout D l' cls d σ' H' →
        wpAny (model X.prog X.w) X.A (handleBy (.ref a) X.env hds') (SP X pins D) X.xe { s' with heap := h3 } := by
      intro hds' l' hk
      induction hk with
      | nil =>
        intro w
        refine wpAny_handleBy_nil ?_
        obtain ⟨k1, k2, k3, oe, vs, T, oT, ts', he, hz, hd, h1, hr⟩ := id fl3
        unfold PySem.passOn
        refine wpAny_bind (wpAny_field he hd h1 ?_)
        rw [if_neg (show ¬ ((Value.ref T == Value.none) = true) from by simp)]
        have fin : wpAny (model X.prog X.w) X.A (setFlight (.ref a) X.env.frame) (fun _ s4 => wpAny (model X.prog X.w) X.A (throw (.ref a) : Sem Flow) (SP X pins D) X.xe s4) X.xe { s' with heap := h3 } := by
          rw [hf]
          refine HandSPX.setFlight_upZ fl3 fun h4 hh4 up4 => wpAny_throw (tk _ _ ?_)
          exact ⟨a, B, sI, pins, σ', H', cls, d, rfl, J, nb, (up.trans up3).trans up4, .inr (.inr (by rw [hs]; exact hh4)), na, os, ag, w⟩
        first
          | exact wpAny_bind (wpAny_pure (wpAny_bind fin))
          | exact wpAny_bind fin
      | @cons x n c i ts b₀ suite np pos' hds2 l2 hi hln hc hsu r ih =>
        intro w
        have hloc : Loc X.env.scope n := .inl hln
        obtain ⟨b, hb1, hyes, hno⟩ := w
        refine wpAny_handleBy_cons (codeAny_handlers_test ?_) (by intro q; cases q)
        have LT : PySem.W.Looks (model X.prog X.w) h3 (typeOf (.ref a)) cls := fun A Q E s k q => wpAny_typeOf_ref (k _ _ he3) (by rw [hz3.1]; exact q)
        have LM := PySem.W.exm_one (M := model X.prog X.w) (J3.kIn) LT hb1
        have test : ∀ {Q : Value → Shared → Prop} {E : Value → Shared → Prop}, Q c { s' with heap := h3 } → wpAny (model X.prog X.w) (X.A.mark (some (.ref a))) (eval (.Name x np) X.env) Q E { s' with heap := h3 } := fun {Q E} q => by
          obtain ⟨hg, hdbg, hm | ⟨hm, hv, hnn⟩⟩ := hc
          · exact ld_glob (X := X.suite a ((a, oe3) :: (X.pn ++ pins))) S3 hg hm q hdbg
          · exact ld_blt (X := X.suite a ((a, oe3) :: (X.pn ++ pins))) S3 hg hm hv q hnn hdbg
        refine test (LM.here ?_)
        cases b with
        | true =>
          refine codeAny_handlers_suite_as ?_
          refine HandSPX.lands_againZ fl3 fun h4 fl4 up4 => ?_
          have J4 : Inv X pins σ' H' { s' with heap := h4 } := J.landed nb fl4.1 ((up.trans up3).trans up4) os ag
          obtain ⟨oe4, vs4, he4, hz4, hd4⟩ := fl4.there
          have S4 := J4.suite he4 hd4 na nL nF
          refine store_ok (X := X.suite a ((a, oe4) :: (X.pn ++ pins))) (v := .ref a) S4 hN hi hloc rfl (fun s5 S5 => ?_) (.inr hln)
          refine wpAny_mono ((hsu a oe4 cls d (X.pn ++ pins) hz4 ⟨_, hd4⟩).run [] s5 _ H' _ S5 (hyes rfl a na)) (fun f s6 hsp => ?_) (fun _ _ z => False.elim z)
          have end_ : ∀ {σ6 : L2.St} {H6 : Hp} {Q : Shared → Prop}, Inv (X.suite a ((a, oe4) :: (X.pn ++ pins))) [] σ6 H6 s6 → (∀ s7, Inv X pins (σ6.set i none) H6 s7 → Q s7) →
              wpAny (model X.prog X.w) X.A (do bindName X.env n .none; unbindBehindTheSuite X.env n pos') (fun _ s7 => Q s7) X.xe s6 := fun {σ6 H6 Q} S6 hq => gone_ok (S6.unsuite ok) hN hi hln hq
          cases f with
          | next =>
            obtain ⟨σ6, H6, S6, q6⟩ := hsp
            exact end_ S6 fun s7 J7 => ⟨_, _, J7, q6⟩
          | brk =>
            obtain ⟨σ6, H6, S6, q6⟩ := hsp
            exact end_ S6 fun s7 J7 => ⟨_, _, J7, q6⟩
          | cont =>
            obtain ⟨σ6, H6, S6, q6⟩ := hsp
            exact end_ S6 fun s7 J7 => ⟨_, _, J7, q6⟩
          | ret u =>
            obtain ⟨v6, σ6, H6, S6, r6, q6⟩ := hsp
            exact end_ S6 fun s7 J7 => ⟨_, _, _, J7, r6, q6⟩
        | false =>
          show wpAny _ X.A (handleBy (.ref a) X.env hds2) _ _ _
          exact ih (hno rfl)
    exact go hh w
  · cases f with
    | next =>
      obtain ⟨σ', H', J', q⟩ := hsp
      exact wpAny_execs_nil ⟨σ', H', J'.ofTry ok, q⟩
    | brk =>
      obtain ⟨σ', H', J', q⟩ := hsp
      exact ⟨σ', H', J'.ofTry ok, q⟩
    | cont =>
      obtain ⟨σ', H', J', q⟩ := hsp
      exact ⟨σ', H', J'.ofTry ok, q⟩
    | ret u =>
      obtain ⟨v, σ', H', J', r, q⟩ := hsp
      exact ⟨v, σ', H', J'.ofTry ok, r, q⟩
end
def sHnd (i : Nat) (fh : SF) (fs : List (Str × D)) (ρ1 : RS) (g1 : G) : SO := if noEx ρ1 = true then (match fh (ρ1.set i (.ex fs)) g1 with
  | .nx ρ2 g2 => if noEx (ρ2.set i .un) = true then .nx (ρ2.set i .un) g2 else .bad
  | .bk ρ2 g2 => if noEx (ρ2.set i .un) = true then .bk (ρ2.set i .un) g2 else .bad
  | .ct ρ2 g2 => if noEx (ρ2.set i .un) = true then .ct (ρ2.set i .un) g2 else .bad
  | .rt d g2 => .rt d g2
  | _ => .bad) else .bad
def hndM (m : Str) (fs : List (Str × D)) (ρ1 : RS) (g1 : G) : List (Nat × Str × SF) → SO
  | [] => .exc m fs ρ1 g1
  | (i, n, fh) :: r => if m = n then sHnd i fh fs ρ1 g1 else hndM m fs ρ1 g1 r
def sTryM (fb : SF) (l : List (Nat × Str × SF)) : SF := fun ρ g => match fb ρ g with
  | .exc m fs ρ1 g1 => hndM m fs ρ1 g1 l
  | o => o
inductive DHs (X : Cx) (c : Ctx) : List ExceptHandler → List (Nat × Str × SF) → Prop
  | nil : DHs X c [] []
  | cons {i : Nat} {n : Str} {C : Addr} {suite : List Stmt} {b₀ : Stmt} {np pos' : Pos} {nn : Str} {fh : SF} {hds : List ExceptHandler} {l : List (Nat × Str × SF)} (hi : X.N[i]? = some nn) (hln : X.env.kindOf nn = some .local) (hc : Names X n (.ref C)) (hcl : c.cl n = some C)
      (hmt : ∀ (m : Str) (C' : Addr), c.cl m = some C' → PySem.W.exmOne X.K (.ref C') (.ref C) = some (decide (m = n)))
      (hsu : ∀ (a dd : Addr) (oe : Obj) (pn : List (Addr × Obj)), Zc (.ref C) (some dd) oe → (∃ vs, oe.data = .fields vs) → DSs (X.suite a ((a, oe) :: pn)) (c.at a dd) W0 (b₀ :: suite) fh) (r : DHs X c hds l) :
      DHs X c (.ExceptHandler (some (.Name n np)) (some nn) (b₀ :: suite) pos' :: hds) ((i, n, fh) :: l)
theorem hnd_ok {X : Cx} {c : Ctx} {W : WX} {E : Ends} {i : Nat} {fh : SF} {fs : List (Str × D)} {ρ1 : RS} {g1 : G} {F F1 H1 : Hp} {σ1 : L2.St} {dx : Addr} {vs : List (Str × V)} (h : SPost c (sHnd i fh fs ρ1 g1) F W E) (e1 : Same F F1) (s1 : SR c F1 H1 σ1 ρ1 g1) (hd1 : H1 dx = some (.xd vs)) (hf1 : FldR c F1 vs fs) (a : Addr) :
    tS (c.at a dx) W0 fh { nx := fun σ' H' => E.nx (σ'.set i none) H', rt := E.rt, bk := fun σ' H' => E.bk (σ'.set i none) H', ct := fun σ' H' => E.ct (σ'.set i none) H' } (σ1.set i (some (.ref a))) H1 := by
  unfold sHnd at h
  by_cases hn : noEx ρ1 = true
  · rw [if_pos hn] at h
    have s2 : SR (c.at a dx) F1 H1 (σ1.set i (some (.ref a))) (ρ1.set i (.ex fs)) g1 := SR.setE (c := c.at a dx) (s1.at (a0 := a) (d0 := dx) hn) (h1 := hd1) (FldR.conv (c := c) rfl hf1) i
    refine ⟨F1, _, g1, s2, ?_⟩
    cases q2 : fh (ρ1.set i (.ex fs)) g1 with
    | nx ρ2 g2 =>
      simp only [q2] at h
      obtain ⟨hn2, h⟩ := h.ite
      exact fun σ3 F3 H3 e3 s3 => h _ F3 H3 (e1.trans e3) (SR.back (c := c) (s3.unset none i) hn2)
    | bk ρ2 g2 =>
      simp only [q2] at h
      obtain ⟨hn2, h⟩ := h.ite
      exact fun σ3 F3 H3 e3 s3 => h _ F3 H3 (e1.trans e3) (SR.back (c := c) (s3.unset none i) hn2)
    | ct ρ2 g2 =>
      simp only [q2] at h
      obtain ⟨hn2, h⟩ := h.ite
      exact fun σ3 F3 H3 e3 s3 => h _ F3 H3 (e1.trans e3) (SR.back (c := c) (s3.unset none i) hn2)
    | rt d g2 =>
      simp only [q2] at h
      exact fun σ3 ρ3 v F3 H3 e3 s3 r3 => by
        have s4 : SR c F3 H3 (σ3.map fun _ => none) (ρ3.map fun _ => .un) g2 := {
          ext := s3.ext
          gok := GOk.conv (c := c.at a dx) rfl rfl s3.gok
          g0 := s3.g0
          len := by rw [List.length_map, List.length_map, s3.len]
          slots := fun j y hy => by
            rw [List.getElem?_map] at hy
            cases z : ρ3[j]? with
            | none => rw [z] at hy; cases hy
            | some y' => rw [z] at hy; cases hy; trivial
          sep := fun j k xs ys b k1 => by
            rw [List.getElem?_map] at k1
            cases z : ρ3[j]? with
            | none => rw [z] at k1; cases k1
            | some y' => rw [z] at k1; cases k1 }
        exact h _ _ v F3 H3 (e1.trans e3) s4 (Rep.conv (c := c.at a dx) rfl rfl r3)
    | exc _ _ _ _ => simp only [q2] at h; exact h.elim
    | bad => simp only [q2] at h; exact h.elim
  · rw [if_neg hn] at h; exact h.elim
theorem ds_tryM {X : Cx} {c : Ctx} {W : WX} {body : List Stmt} {h₀ : ExceptHandler} {hds : List ExceptHandler} {pos : Pos} {fb : SF} {l : List (Nat × Str × SF)} (hs : X.stack = X.env :: X.outer) (hf : X.env.frame = some X.env.locals) (hN : X.N.Nodup) (tk : Takes X W)
    (hb : ∀ (W : WX) (pn : List (Addr × Obj)) (xe : Value → Shared → Prop), Takes (X.tr pn xe) W → PassesOwn (model X.prog X.w) X.A X.env xe → DSs (X.tr pn xe) c W body fb)
    (hh : DHs X c (h₀ :: hds) l) : DS X c W (.Try body (h₀ :: hds) [] [] pos) (sTryM fb l) := by
  have key : ∀ {hds : List ExceptHandler} {l : List (Nat × Str × SF)}, DHs X c hds l → ∃ l', HdsAs X hds l' ∧ ∀ (E : Ends) (m : Str) (fs : List (Str × D)) (ρ1 : RS) (g1 : G) (F : Hp), SPost c (hndM m fs ρ1 g1 l) F W E →
      ∀ C dx vs σ1 F1 H1, Same F F1 → SR c F1 H1 σ1 ρ1 g1 → c.cl m = some C → H1 dx = some (.xd vs) → FldR c F1 vs fs → wAsM X.K W E l' (.ref C) (some dx) σ1 H1 := by
    intro hds l hk
    induction hk with
    | nil => exact ⟨[], .nil, fun E m fs ρ1 g1 F h => fun C dx vs σ1 F1 H1 e1 s1 hc hd hf => h C dx vs σ1 F1 H1 e1 s1 hc hd hf⟩
    | @cons i n C suite b₀ np pos' nn fh hds l hi hln hc hcl hmt hsu r ih =>
      obtain ⟨l', h1, h2⟩ := ih
      refine ⟨(.ref C, i, fun a cls d E σ H => cls = .ref C ∧ ∃ dd, d = some dd ∧ tS (c.at a dd) W0 fh E σ H) :: l', .cons hi hln hc (fun a oe cls d pn hz hd => ⟨fun pins s σ H E I w => by
        obtain ⟨rfl, dd, rfl, w⟩ := w
        exact (hsu a dd oe pn hz hd).run pins s σ H E I w⟩) h1, ?_⟩
      intro E m fs ρ1 g1 F h C' dx vs σ1 F1 H1 e1 s1 hc1 hd1 hf1
      refine ⟨decide (m = n), hmt m C' hc1, fun hb a na => ?_, fun hb => ?_⟩
      · have em : m = n := of_decide_eq_true hb
        unfold hndM at h
        rw [if_pos em] at h
        have ec : C' = C := by rw [em, hcl] at hc1; exact (Option.some.inj hc1).symm
        subst ec
        exact ⟨rfl, dx, rfl, hnd_ok (X := X) h e1 s1 hd1 hf1 a⟩
      · have em : ¬ m = n := of_decide_eq_false hb
        unfold hndM at h
        rw [if_neg em] at h
        exact h2 E m fs ρ1 g1 F h C' dx vs σ1 F1 H1 e1 s1 hc1 hd1 hf1
  obtain ⟨l', h1, h2⟩ := key hh
  refine PS.imp (ps_try_asM (tb := fun W => tS c W fb) (Wout := W) hs hf hN tk hb h1) fun E σ H ⟨F, ρ, g, s, h⟩ => ?_
  refine ⟨F, ρ, g, s, ?_⟩
  unfold sTryM at h
  cases q : fb ρ g with
  | nx ρ1 g1 => simp only [q] at h; exact h
  | rt d g1 => simp only [q] at h; exact h
  | bk ρ1 g1 => simp only [q] at h; exact h
  | ct ρ1 g1 => simp only [q] at h; exact h
  | bad => simp only [q] at h; exact h
  | exc m fs ρ1 g1 =>
    simp only [q] at h
    exact fun C' dx vs σ1 F1 H1 e1 s1 hc1 hd1 hf1 => h2 E m fs ρ1 g1 F h C' dx vs σ1 F1 H1 e1 s1 hc1 hd1 hf1
end DL
namespace DL
open PySem PySem.Spec PyProof.Rows L2 PySem.Calls
section
variable {prog : Program} {w : World} {A : Around} {E : Value → Shared → Prop} {s : Shared}
def oneCopy (h : Heap) (vs : List Value) : Heap :=
  let h1 := h.push (seqObj "list" #[] 0)
  h1.update h.objs.size (Obj.mapSeq (· ++ vs.toArray))
theorem nilApp (vs : List Value) : (#[] : Array Value) ++ vs.toArray = vs.toArray := by simp
theorem collectT {l : Addr} {vs : List Value}
    {Q : List Value → Shared → Prop}
    (hl : IsTup s.heap l vs.toArray)
    (hz : vs.length ≤ sizeLine)
    (h : Q vs { s with heap := oneCopy s.heap vs }) :
    wpAny (model prog w) A (collect (.ref l)) Q E s := by
  obtain ⟨ob, hob, hcl, k, hdat⟩ := hl
  have h0 : (s.heap.push (seqObj "list" #[] 0)).get? s.heap.objs.size
      = some (seqObj "list" #[] 0) := Heap.get?_push_size _ rfl
  have h1 : (s.heap.push (seqObj "list" #[] 0)).get? l = some ob :=
    Heap.get?_push_of_some _ hob
  have tT : (Value.type "tuple" == Value.type "tuple") = true := by rfl
  unfold collect
  refine wpAny_bind (wpAny_runValue
    (codeAny_builtin entry_proto_collect' ?_))
  show wpAny _ _ (do
    again (.builtin "list.__iadd__" ⟨[← newList [], .ref l], []⟩)) _ _ s
  refine wpAny_bind (wpAny_newList (wpAny_pure
    ⟨Code.quiet_builtin _ (by decide +kernel),
      codeAny_builtin entry_list_iadd' ?_⟩))
  show wpAny _ _ (Builtin.List.listExtendWith
    (.ref s.heap.objs.size) (.ref l) (.ref s.heap.objs.size)) _ _
    { s with heap := s.heap.push (seqObj "list" #[] 0) }
  unfold Builtin.List.listExtendWith
  refine wpAny_bind (wpAny_typeOf
    (T := "tuple") ⟨ob, h1, hcl⟩ ?_)
  rw [if_pos (by rw [tT]; exact Bool.or_true _)]
  refine wpAny_bind (listItems_at h1 hdat ?_)
  refine wpAny_bind (listItems_at
    (xs := #[]) (n := 0) h0 rfl ?_)
  rw [if_neg (by simp)]
  refine wpAny_bind (listUpdate_at
    (xs := #[]) (n := 0) h0 rfl ?_ (Nat.zero_le _)
    (by
      show (#[] ++ vs.toArray).size ≤ _
      rw [nilApp, List.size_toArray]
      omega))
  refine wpAny_pure ?_
  show wpAny (model prog w) A (do
      let o ← load s.heap.objs.size
      match o.data with
      | .seq xs _ => pure xs.toList
      | _ => unsupported "internal:collect") Q E { s with heap := oneCopy s.heap vs }
  refine wpAny_bind (wpAny_load
    (get?_update_seq h0 _) ?_)
  show wpAny _ _
    (pure ((#[] : Array Value) ++ vs.toArray).toList) Q E _
  rw [nilApp]
  exact wpAny_pure h
theorem sortedT_of {l : Addr} {vs : List Value}
    {Q : Value → Shared → Prop} (hl : IsTup s.heap l vs.toArray)
    (hz : vs.length ≤ sizeLine)
    (body : ∀ E' : Value → Shared → Prop,
      wpAny (model prog w) A.in1.in1
        (Builtin.«list.sort» ⟨[.ref (s.heap.objs.size + 1)], []⟩)
        (fun f t => f = .done (.ret .none) ∧ Q (.ref (s.heap.objs.size + 1)) t)
        E' { s with heap := PySem.W.copyHeap s.heap vs }) :
    wpAny (model prog w) A
      (call (.builtin "sorted") [.ref l]) Q E s := by
  refine call_function_entry_kw kind_sorted
    plain_sorted entry_sorted (args_sorted1 _) ?_
  unfold Builtin.«sorted»
  refine wpAny_bind
    (m := checkCount "sorted" 1 1 _) (wpAny_pure ?_)
  refine wpAny_bind (collectT hl hz ?_)
  refine wpAny_bind (wpAny_newList ?_ hz)
  have hn : (oneCopy s.heap vs).objs.size = s.heap.objs.size + 1 := by
    unfold oneCopy
    dsimp only
    rw [Heap.size_update, size_push']
  show wpAny _ _ _ _ _
    { s with heap := PySem.W.copyHeap s.heap vs }
  rw [hn]
  refine wpAny_bind (wpAny_holding
    (wpAny_call_entry_kw slot_list_sort
      ⟨_, PySem.W.copyHeap_at s.heap vs, rfl⟩ entry_list_sort ?bd (args_list_sort _)))
  case bd =>
    show wpAny (model prog w) A.in1.in1
      (Builtin.«list.sort» ⟨[.ref (s.heap.objs.size + 1)], []⟩) _ _ _
    refine wpAny_mono (body _)
      (fun f t ⟨e, q⟩ => ?_) fun _ _ e => e
    subst e
    exact ⟨_, rfl, wpAny_pure ⟨_, rfl, q⟩⟩
theorem sortedT_data {β : Type} {vs : List Value} {bs : List β} {enc : β → PyData}
    {R : Value → β → Prop} {l : Addr} {Q : Value → Shared → Prop}
    (hl : IsTup s.heap l vs.toArray) (e : PySem.W.EachIs R vs bs)
    (er : PySem.W.EachIs (fun v b => ∃ as, Reads s.heap v (enc b) as) vs bs)
    (hal : PySem.W.AllAlike (bs.map enc)) (hk : PySem.W.Sortable (bs.map enc))
    (hL : bs.length ≤ sizeLine)
    (hu : ∀ b, b ∈ bs → A.units + 2 + (enc b).depth < cLine)
    (h : ∀ out, out.length = bs.length →
      PySem.W.EachIs R out (bs.mergeSort (PySem.W.dataLe false enc)) →
      Q (.ref (s.heap.objs.size + 1)) { s with heap := sortedAll s.heap vs (List.toArray out) }) :
    wpAny (model prog w) A
      (call (.builtin "sorted") [.ref l]) Q E s := by
  let hp := PySem.W.sortingHeap (PySem.W.copyHeap s.heap vs) (s.heap.objs.size + 1) vs
  have er2 : PySem.W.EachIs (fun v b => ∃ as, Reads hp v (enc b) as) vs bs :=
    er.mono fun _ _ ⟨as, r⟩ =>
      ⟨as, PyProof.Rows.Reads.keeps (fun _ _ => PySem.W.sorting_copy_old) r⟩
  have hz : vs.length ≤ sizeLine := by
    rw [e.length]
    exact hL
  have S := PySem.W.SortsAt.data (prog := prog) (w := w) (A := A.in1.in1) (s := { s with heap := hp })
    (PySem.W.each_map (R := fun v d => ∃ as, Reads hp v d as) enc er2) hal hk (PySem.W.bound_map hu)
  refine sortedT_of hl hz fun _ => PySem.W.list_sort_vals
    (s := { s with heap := PySem.W.copyHeap s.heap vs })
    (PySem.W.copyHeap_at s.heap vs) S hz ⟨rfl, ?_⟩
  exact h _ (by
    rw [PySem.W.sortVals_length false rfl]
    exact e.length) (PySem.W.sortVals_data false e er2 hal)
end
theorem each_of {P : V → D → Prop} : ∀ {xs : List V} {us : List Value} {ds : List D}, Vals xs us → Paired P xs ds → PySem.W.EachIs (fun u d => ∃ x, L2.RelV x u ∧ P x d) us ds
  | _, _, _, .nil, h => by cases h; exact .nil
  | _, _, _, .cons r t, h => by
    cases h with
    | cons h1 h2 => exact .cons ⟨_, r, h1⟩ (each_of t h2)
theorem of_each {P : V → D → Prop} : ∀ {us : List Value} {ds : List D}, PySem.W.EachIs (fun u d => ∃ x, L2.RelV x u ∧ P x d) us ds → ∃ xs, Vals xs us ∧ Paired P xs ds
  | _, _, .nil => ⟨[], .nil, .nil⟩
  | _, _, .cons ⟨x, r, p⟩ t => by
    obtain ⟨xs, h1, h2⟩ := of_each t
    exact ⟨x :: xs, .cons r h1, .cons p h2⟩
def rSortedDt (K : PySem.W.Frag) : List V → Hp → VK → Prop := fun vs H Q => ∃ (a : Addr) (xs : List V) (ds : List D) (P : V → D → Prop), vs = [.ref a] ∧ (SqL K H a xs ∨ SqT K H a xs) ∧ DpAll K H xs ds ∧ Paired P xs ds ∧ PySem.W.AllAlike ds ∧ PySem.W.Sortable ds ∧ (∀ d ∈ ds, d.depth ≤ 64) ∧
  ∀ (ys : List V) (p : Addr), Paired P ys (ds.mergeSort (PySem.W.dataLe false id)) → H p = none → Q (.ref p) (upd H p (.lst ys))
theorem cr_sortedDt {X : Cx} (hu : X.A.units + 100 < cLine) : CallR X (.builtin "sorted") (rSortedDt X.K) := by
  intro pins s σ H vs us Q I r h
  obtain ⟨a, xs, ds, P, rfl, hs, hd, hp, hal, hso, hdp, q⟩ := h
  obtain ⟨u, rfl, ru⟩ := vals1 r
  obtain rfl : u = Value.ref a := ru
  have inv : ∃ its : List Value, Vals xs its ∧ (s.heap.IsList a its.toArray ∨ IsTup s.heap a its.toArray) ∧ xs.length ≤ sizeLine := by
    rcases hs with hs | hs
    · obtain ⟨its, rv, hl, hz⟩ := I.list hs
      exact ⟨its, rv, .inl hl.isList, hz⟩
    · obtain ⟨its, rv, hl, hz⟩ := I.tuple hs
      exact ⟨its, rv, .inr hl, hz⟩
  obtain ⟨its, rv, hl, hz⟩ := inv
  obtain ⟨as, hr⟩ := Dp.readsAll I ds xs its hd rv
  have hlen : ds.length = its.length := by rw [← hp.length]; exact rv.length
  have hr' : ReadsAll s.heap its (ds.map id) as := by rw [List.map_id]; exact hr
  have hbd : ∀ b, b ∈ ds → X.A.units + 2 + (id b : D).depth < cLine := fun b hb => by
    have := hdp b hb
    show X.A.units + 2 + PyData.depth b < cLine
    omega
  have hq : ∀ out : List Value, out.length = ds.length → PySem.W.EachIs (fun u d => ∃ x, L2.RelV x u ∧ P x d) out (ds.mergeSort (PySem.W.dataLe false id)) → EP X pins σ Q (.ref (s.heap.objs.size + 1)) { s with heap := sortedAll s.heap its (List.toArray out) } := fun out ho he => by
    obtain ⟨ys, h1, h2⟩ := of_each he
    obtain ⟨n, hn⟩ := sortedAll_at s.heap its out.toArray
    have kp : ∀ b o, s.heap.get? b = some o → (sortedAll s.heap its out.toArray).get? b = some o := fun b o e => sortedAll_old e
    refine ⟨.ref (s.heap.objs.size + 1), upd H (s.heap.objs.size + 1) (.lst ys), I.laid (t' := s.toks) kp (Nat.le_succ _) ⟨?_, out, n, h1, hn⟩, rfl, q ys _ h2 (I.hok.fresh (Nat.le_succ _))⟩
    rw [h1.length, ho, hlen, ← rv.length]
    exact hz
  rcases hl with hl | hl
  · exact PySem.W.sorted_data (β := D) (enc := id) (R := fun u d => ∃ x, L2.RelV x u ∧ P x d) hl (each_of rv hp) (PySem.W.readsAll_each id hr') (by rw [List.map_id]; exact hal) (by rw [List.map_id]; exact hso) (by rw [hlen, ← rv.length]; exact hz) hbd hq
  · exact sortedT_data (β := D) (enc := id) (R := fun u d => ∃ x, L2.RelV x u ∧ P x d) hl (each_of rv hp) (PySem.W.readsAll_each id hr') (by rw [List.map_id]; exact hal) (by rw [List.map_id]; exact hso) (by rw [hlen, ← rv.length]; exact hz) hbd hq
def insD (x : D) : List D → List D
  | [] => [x]
  | y :: r => if PySem.W.dataLe false id x y = true then x :: y :: r else y :: insD x r
def sortD : List D → List D
  | [] => []
  | x :: r => insD x (sortD r)
theorem insD_mid {x : D} : ∀ {l1 l2 : List D}, (∀ b ∈ l1, PySem.W.dataLe false id x b = false) → (∀ y ∈ l2, PySem.W.dataLe false id x y = true) → insD x (l1 ++ l2) = l1 ++ x :: l2
  | [], [], _, _ => rfl
  | [], y :: l2, _, h2 => by
    show (if PySem.W.dataLe false id x y = true then x :: y :: l2 else y :: insD x l2) = x :: y :: l2
    rw [if_pos (h2 y List.mem_cons_self)]
  | b :: l1, l2, h1, h2 => by
    show (if PySem.W.dataLe false id x b = true then x :: b :: (l1 ++ l2) else b :: insD x (l1 ++ l2)) = b :: (l1 ++ x :: l2)
    rw [if_neg (by rw [h1 b List.mem_cons_self]; decide), insD_mid (fun c hc => h1 c (List.mem_cons_of_mem _ hc)) h2]
theorem sortD_eq : ∀ ds : List D, ds.mergeSort (PySem.W.dataLe false id) = sortD ds
  | [] => by rw [List.mergeSort_nil]; rfl
  | x :: r => by
    have T : PySem.W.TotalLe (PySem.W.dataLe (β := D) false id) := PySem.W.sortLe_total _ _ _
    obtain ⟨l1, l2, e1, e2, e3⟩ := List.mergeSort_cons T.trans (fun a b => by have := T.total a b; simpa [Bool.or_eq_true] using this) x r
    have hp := PySem.W.sort_pairwise T (x :: r)
    rw [e1] at hp
    rw [e1]
    show _ = insD x (sortD r)
    rw [← sortD_eq r, e2, insD_mid (fun b hb => by simpa using e3 b hb) fun y hy => ?_]
    exact (List.pairwise_cons.mp (List.pairwise_append.mp hp).2.1).1 y hy
def tupI : D → Bool
  | .tuple (x :: r) => (asInts (x :: r)).isSome
  | _ => false
def tupIT : D → Bool
  | .tuple [.int _, .tuple ys] => (asInts ys).isSome
  | _ => false
def intD : D → Bool
  | .int _ => true
  | _ => false
def sortOk (xs : List D) : Bool := xs.all intD || xs.all tupI || xs.all tupIT
theorem asInts_some {xs : List D} (h : (asInts xs).isSome = true) : ∃ ns : List Int, xs = ns.map .int := by
  obtain ⟨ns, e⟩ := Option.isSome_iff_exists.mp h
  exact ⟨ns, asInts_of e⟩
theorem depth_ii (ns : List Int) : PyData.depthAll (ns.map .int) = 0 := PySem.W.depth_ints ns
theorem sortOk_all {xs : List D} (h : sortOk xs = true) : PySem.W.AllAlike xs ∧ PySem.W.Sortable xs ∧ ∀ d ∈ xs, d.depth ≤ 64 := by
  unfold sortOk at h
  simp only [Bool.or_eq_true, List.all_eq_true] at h
  rcases h with (h | h) | h
  · have k : ∀ d ∈ xs, ∃ i, d = .int i := fun d hd => by
      have := h d hd
      cases d with
      | int i => exact ⟨i, rfl⟩
      | _ => cases this
    refine ⟨fun d hd e he => ?_, .inr fun d hd => ?_, fun d hd => ?_⟩
    · obtain ⟨i, rfl⟩ := k d hd
      obtain ⟨j, rfl⟩ := k e he
      simp [PySem.W.alike]
    · obtain ⟨i, rfl⟩ := k d hd
      exact ⟨fun e => (by cases e), fun xs e => (by cases e)⟩
    · obtain ⟨i, rfl⟩ := k d hd
      simp [PyData.depth]
  · have k : ∀ d ∈ xs, ∃ (i : Int) (ns : List Int), d = .tuple ((i :: ns).map .int) := fun d hd => by
      have := h d hd
      cases d with
      | tuple ys =>
        cases ys with
        | nil => cases this
        | cons y r =>
          obtain ⟨ns, e⟩ := asInts_some (show (asInts (y :: r)).isSome = true from this)
          cases ns with
          | nil => cases e
          | cons i ns => exact ⟨i, ns, by rw [e]⟩
      | _ => cases this
    refine ⟨fun d hd e he => ?_, .inl fun d hd => ?_, fun d hd => ?_⟩
    · obtain ⟨i, ns, rfl⟩ := k d hd
      obtain ⟨j, ms, rfl⟩ := k e he
      rw [PySem.W.alike]
      exact PySem.W.alike_ints _ _
    · obtain ⟨i, ns, rfl⟩ := k d hd
      exact ⟨_, _, rfl⟩
    · obtain ⟨i, ns, rfl⟩ := k d hd
      rw [PyData.depth, depth_ii]
      omega
  · have k : ∀ d ∈ xs, ∃ (i : Int) (ns : List Int), d = .tuple [.int i, .tuple (ns.map .int)] := fun d hd => by
      have := h d hd
      unfold tupIT at this
      split at this
      · rename_i i ys
        obtain ⟨ns, e⟩ := asInts_some this
        exact ⟨i, ns, by rw [e]⟩
      · cases this
    refine ⟨fun d hd e he => ?_, .inl fun d hd => ?_, fun d hd => ?_⟩
    · obtain ⟨i, ns, rfl⟩ := k d hd
      obtain ⟨j, ms, rfl⟩ := k e he
      simp only [PySem.W.alike, PySem.W.alikeAll, Bool.and_true, Bool.true_and]
      exact PySem.W.alike_ints _ _
    · obtain ⟨i, ns, rfl⟩ := k d hd
      exact ⟨_, _, rfl⟩
    · obtain ⟨i, ns, rfl⟩ := k d hd
      simp only [PyData.depth, PyData.depthAll, depth_ii]
      omega
def bSortA (ds : List D) (g : G) : Out D := match ds with
  | [.list xs] => if sortOk xs = true then .ok (.list (sortD xs)) g else .bad
  | [.tuple xs] => if sortOk xs = true then .ok (.list (sortD xs)) g else .bad
  | _ => .bad
theorem rq_paired {K : PySem.W.Frag} {F : Hp} : ∀ {vs : List V} {ds : List D}, RqAll K F vs ds → Paired (Rq K F) vs ds
  | _, _, .nil => .nil
  | _, _, .cons h t => .cons h (rq_paired t)
theorem paired_rq {K : PySem.W.Frag} {F : Hp} : ∀ {vs : List V} {ds : List D}, Paired (Rq K F) vs ds → RqAll K F vs ds
  | _, _, .nil => .nil
  | _, _, .cons h t => .cons h (paired_rq t)
theorem hu100 {A : Around} {k : Nat} (hr : Room k A) : A.units + 100 < cLine := by have := hr.un; omega
theorem kl_sortA {c : Ctx} {W : WX} : KeepsL c W (rSortedDt c.K) bSortA := by
  intro σ ρ g F H vs ds Q s r h
  unfold bSortA at h
  split at h
  · rename_i xs
    obtain ⟨v, rfl, rv⟩ := rep1 r
    obtain ⟨hk, h⟩ := h.ite
    obtain ⟨h1, h2, h3⟩ := sortOk_all hk
    obtain ⟨a, ws, rfl, q1, q2⟩ := rv.list
    refine ⟨a, ws, xs, Rq c.K F, rfl, .inl (SqL.of (s.fh _ _ q1)), RqAll_dp _ _ (RqAll_mono s.fh _ _ q2), rq_paired q2, h1, h2, h3, fun ys p hp hn => ?_⟩
    rw [sortD_eq] at hp
    exact h.newList s hn (paired_rq hp)
  · rename_i xs
    obtain ⟨v, rfl, rv⟩ := rep1 r
    obtain ⟨hk, h⟩ := h.ite
    obtain ⟨h1, h2, h3⟩ := sortOk_all hk
    obtain ⟨a, ws, rfl, q1, q2⟩ := rv.tuple
    refine ⟨a, ws, xs, Rq c.K F, rfl, .inr (seqT_mono s.fh q1), RqAll_dp _ _ (RqAll_mono s.fh _ _ q2), rq_paired q2, h1, h2, h3, fun ys p hp hn => ?_⟩
    rw [sortD_eq] at hp
    exact h.newList s hn (paired_rq hp)
  · exact h.elim
end DL
namespace DL
open PySem
open PySem.Spec
open PyProof.Rows
open L2
section
variable {prog : Program} {w : World} {A : Around} {E : Value → Shared → Prop} {s : Shared}
theorem adjust_rev (n : Nat) : Builtin.Slice.sliceAdjust none none (-1) (n : Int) = ((n : Int) - 1, -1) := by
  unfold Builtin.Slice.sliceAdjust
  have h1 : ((-1 : Int) < 0) := by decide
  simp only [h1, if_true]
theorem places_rev (n : Nat) : Builtin.Slice.slicePlaces ((n : Int) - 1) (-1) (-1) = n := by
  unfold Builtin.Slice.slicePlaces
  have h1 : ¬ (-1 : Int) > 0 := by decide
  simp only [h1, if_false]
  have e : - (-1 : Int) = 1 := by decide
  rw [e, Int.ediv_one]
  split <;> omega
theorem sliceApplied_rev {sl : Addr} {vs : Value} {n : Nat} {Q : Int × Int × Nat → Shared → Prop} (hs : s.heap.IsSliceOf sl .none .none vs) (ps : IsPart vs (some (-1)))
    (h : Q ((n : Int) - 1, -1, n) s) : wpAny (model prog w) A (Builtin.Slice.sliceApplied (.ref sl) (pure (n : Int))) Q E s := by
  obtain ⟨os, hos, hcs, hds⟩ := id hs
  unfold Builtin.Slice.sliceApplied Builtin.Slice.sliceFields
  refine wpAny_bind (wpAny_bind (wpAny_field hos hds (x := .none) rfl (wpAny_bind (wpAny_field hos hds (x := .none) rfl (wpAny_bind (wpAny_field hos hds (x := vs) rfl (wpAny_pure ?_)))))))
  refine wpAny_bind (HT.slicePart_ ps ?_)
  show wpAny _ _ (if ((-1 : Int) == 0) = true then _ else _) _ _ s
  rw [if_neg (by decide)]
  refine wpAny_bind (slicePart_none (wpAny_bind (slicePart_none (wpAny_bind (wpAny_pure ?_)))))
  show wpAny _ _ (match Builtin.Slice.sliceAdjust none none (-1) (n : Int) with | (lo, hi) => pure (lo, (-1 : Int), Builtin.Slice.slicePlaces lo hi (-1))) _ _ s
  rw [adjust_rev n]
  show wpAny _ _ (pure ((n : Int) - 1, (-1 : Int), Builtin.Slice.slicePlaces ((n : Int) - 1) (-1) (-1))) _ _ s
  rw [places_rev]
  exact wpAny_pure h
theorem pick_rev (xs : Array Value) : ((List.range xs.size).filterMap fun (m : Nat) => xs[((xs.size : Int) - 1 + (m : Int) * -1).toNat]?).toArray = xs.toList.reverse.toArray := by
  have e : ∀ l : List Nat, (l.filterMap fun (m : Nat) => xs[((xs.size : Int) - 1 + (m : Int) * -1).toNat]?) = (l.map fun k => xs.size - 1 - k).filterMap (xs[·]?) := by
    intro l
    rw [List.filterMap_map]
    congr 1
    funext m
    show xs[((xs.size : Int) - 1 + (m : Int) * -1).toNat]? = xs[xs.size - 1 - m]?
    have : ((xs.size : Int) - 1 + (m : Int) * -1).toNat = xs.size - 1 - m := by omega
    rw [this]
  rw [e, PySem.W.krv_range, List.filterMap_reverse, PySem.W.krv_all]
theorem getItem_tuple_rev {t sl : Addr} {items : Array Value} {vs : Value} {Q : Value → Shared → Prop} (ht : IsTup s.heap t items) (hs : s.heap.IsSliceOf sl .none .none vs) (ps : IsPart vs (some (-1)))
    (h : Q (.ref s.heap.objs.size) { s with heap := s.heap.push { cls := .type "tuple", data := .seq items.toList.reverse.toArray } })
    (hsz : items.size ≤ sizeLine) : wpAny (model prog w) A (getItem (.ref t) (.ref sl)) Q E s := by
  have htake : sizeOk (.seq items.toList.reverse.toArray) := by
    show items.toList.reverse.toArray.size ≤ sizeLine
    rw [List.size_toArray, List.length_reverse, Array.length_toList]
    omega
  obtain ⟨os, hos, hcs, hds⟩ := id hs
  have hTs : s.TypeIs (.ref sl) "slice" := ⟨os, hos, hcs⟩
  unfold getItem
  try with_reducible refine wpAny_holding ?_
  first | refine wpAny_bind (wpAny_pure ?_) | skip
  refine wpAny_bind (wpAny_sequenceKey ht.typeIs (by decide) ?_)
  refine wpAny_bind (wpAny_callSpecial?_slot (name := Str.ofString "__getitem__") ht.typeIs PyProof.Rows.slot_tuple_getitem
    (wpAny_call_entry PyProof.Rows.slot_tuple_getitem ht.typeIs entry_tuple_getitem ?_ (args_tuple_getitem _ _)))
  show wpAny _ _ (Builtin.Tuple.tupleItemsOf (.ref t) >>= _) _ _ s
  refine wpAny_bind (tupleItemsOf_ ht ?_)
  refine wpAny_bind (wpAny_typeOf hTs ?_)
  rw [if_pos (by decide)]
  refine wpAny_bind (sliceApplied_rev hs ps ?_)
  have hno : ¬ ((((items.size : Int) - 1) == 0 && (-1 : Int) == 1 && items.size == items.size) = true) := by
    intro q
    rw [Bool.and_eq_true, Bool.and_eq_true] at q
    exact absurd q.1.2 (by decide)
  show wpAny _ _ (if (((items.size : Int) - 1) == 0 && (-1 : Int) == 1 && items.size == items.size) = true then _ else _) _ _ s
  rw [if_neg hno, pick_rev]
  first
    | exact wpAny_bind (m := Builtin.Tuple.tupleExact _) (wpAny_newObj_type (wpAny_pure ⟨_, rfl, wpAny_pure h⟩) htake)
    | exact wpAny_bind (m := Builtin.Tuple.tupleExact _) (wpAny_newObj_type (wpAny_bind (wpAny_pure (wpAny_pure ⟨_, rfl, wpAny_pure h⟩))) htake)
    | exact wpAny_bind (wpAny_bind (m := Builtin.Tuple.tupleExact _) (wpAny_newObj_type (wpAny_pure (wpAny_pure ⟨_, rfl, wpAny_pure h⟩)) htake))
    | exact wpAny_bind (wpAny_bind (m := Builtin.Tuple.tupleExact _) (wpAny_newObj_type (wpAny_pure ⟨_, rfl, wpAny_pure h⟩) htake))
end
def tRevA (K : PySem.W.Frag) (te : TE) : TE := fun σ H Q => te σ H fun x H1 => (∃ a xs, x = .ref a ∧ SqL K H1 a xs ∧ ∀ p, H1 p = none → Q (.ref p) (upd H1 p (.lst xs.reverse))) ∨
  (∃ a xs, x = .ref a ∧ SqT K H1 a xs ∧ ∀ p, H1 p = none → Q (.ref p) (upd H1 p (.tup xs.reverse)))
theorem pe_revA {X : Cx} {e : Expr} {te : TE} {k : Nat} {p1 p2 p3 pos : Pos} (he : PE X e te) : PE X (.Subscript e (.Slice none none (some (.UnaryOp .USub (.Constant (.int 1) k p1) p2)) p3) pos) (tRevA X.K te) := by
  refine ⟨fun pins s σ H Q I h => ?_⟩
  refine Subscript_ (thn (he.run pins s σ H _ I h) fun v s1 ⟨x, H1, I1, r1, q1⟩ => ?_)
  have hst : PO X (some (.UnaryOp .USub (.Constant (.int 1) k p1) p2)) (tPart (tUn (rU fun i => .int (-i)) (tC (.int 1)))) := po_some (pe_un un_neg pe_int)
  refine wpAny_Slice (thn (po_none.run pins s1 σ H1 (fun o H2 => o = none ∧ H2 = H1) I1 ⟨rfl, rfl⟩) fun vl s2 ⟨l, H2, I2, pl, el, e2⟩ => ?_)
  subst el e2
  refine thn (po_none.run pins s2 σ H2 (fun o H3 => o = none ∧ H3 = H2) I2 ⟨rfl, rfl⟩) fun vu s3 ⟨u, H3, I3, pu, eu, e3⟩ => ?_
  subst eu e3
  refine thn (hst.run pins s3 σ H3 (fun o H4 => o = some (-1) ∧ H4 = H3) I3 ⟨1, rfl, -1, rfl, rfl, rfl⟩) fun vs s4 ⟨o, H4, I4, ps, eo, e4⟩ => ?_
  subst eo e4
  have I5 : Inv X pins σ H4 { s4 with heap := s4.heap.push { cls := .type "slice", data := .fields #[vl, vu, vs] } } := I4.kept (t' := s4.toks) fun b ob q => Heap.get?_push_of_some _ q
  rcases q1 with q1 | q1
  · obtain ⟨a, xs, ex, hx, q⟩ := q1
    subst ex
    cases r1
    obtain ⟨its, r, ht, hz⟩ := I5.list hx
    show wpAny (model X.prog X.w) X.A (subscriptTail e (.Slice none none (some (.UnaryOp .USub (.Constant (.int 1) k p1) p2)) p3) (.ref a) (.ref s4.heap.objs.size)) (EP X pins σ Q) X.xe { s4 with heap := s4.heap.push { cls := .type "slice", data := .fields #[vl, vu, vs] } }
    have hlen := r.length
    refine tail_any (ops := [.ref a, .ref s4.heap.objs.size]) ht.isList.typeIs (PySem.slot_list_getitem.lookup) ?_ (by with_unfolding_all rfl)
    refine wpAny_getItem_list_slice ht.isList (Heap.IsSliceOf.new _ vl vu vs) pl pu ps (by decide) ?_ (by rw [List.size_toArray]; omega)
    rw [PySem.W.krv_pick]
    refine ⟨.ref _, _, I5.laid (t' := s4.toks) (o := .lst xs.reverse) (fun b ob q => Heap.get?_push_of_some _ q) (Nat.le_refl _) ?_, rfl, q _ (I5.hok.fresh (Nat.le_refl _))⟩
    exact ⟨by rw [List.length_reverse]; exact hz, _, 0, r.reverse, Heap.get?_push_size _ rfl⟩
  · obtain ⟨a, xs, ex, hx, q⟩ := q1
    subst ex
    cases r1
    cases pl
    cases pu
    obtain ⟨its, r, ht, hz⟩ := I5.tuple hx
    have hlen : its.toArray.size = xs.length := by rw [List.size_toArray]; exact r.length.symm
    show wpAny (model X.prog X.w) X.A (subscriptTail e (.Slice none none (some (.UnaryOp .USub (.Constant (.int 1) k p1) p2)) p3) (.ref a) (.ref s4.heap.objs.size)) (EP X pins σ Q) X.xe { s4 with heap := s4.heap.push { cls := .type "slice", data := .fields #[.none, .none, vs] } }
    refine tail_any (ops := [.ref a, .ref s4.heap.objs.size]) ht.typeIs (PyProof.Rows.slot_tuple_getitem.lookup) ?_ (by with_unfolding_all rfl)
    refine getItem_tuple_rev ht (Heap.IsSliceOf.new _ .none .none vs) ps ?_ (by rw [hlen]; exact hz)
    refine ⟨.ref _, _, I5.laid (t' := s4.toks) (o := .tup xs.reverse) (fun b ob q => Heap.get?_push_of_some _ q) (Nat.le_refl _) ?_, rfl, q _ (I5.hok.fresh (Nat.le_refl _))⟩
    exact ⟨by rw [List.length_reverse]; exact hz, _, r.reverse, IsTup.new _ _⟩
def eRevA (fa : EF) : EF := fun ρ g => (fa ρ g).bind fun x g1 => match x with
  | .list xs => .ok (.list xs.reverse) g1
  | .tuple xs => .ok (.tuple xs.reverse) g1
  | _ => .bad
section
variable {X : Cx} {c : Ctx} {W : WX} {pos : Pos} {e : Expr} {fe : EF}
theorem d_revA {k : Nat} {p1 p2 p3 : Pos} (hK : c.K = X.K) (ha : DE X c W e fe) : DE X c W (.Subscript e (.Slice none none (some (.UnaryOp .USub (.Constant (.int 1) k p1) p2)) p3) pos) (eRevA fe) :=
  PE.imp (pe_revA ha) fun σ H Q ⟨F, ρ, g, s, h⟩ => ⟨F, ρ, g, s, PostG.bind s h fun x g1 v F1 H1 e1 s1 r1 h1 => by
    cases x with
    | list xs =>
      obtain ⟨p, vs, rfl, q1, q2⟩ := r1.list
      exact .inl ⟨p, vs, rfl, by rw [← hK]; exact SqL.of (s1.fh _ _ q1), fun q n => h1.newList s1 n q2.rev⟩
    | tuple xs =>
      obtain ⟨p, vs, rfl, q1, q2⟩ := r1.tuple
      exact .inr ⟨p, vs, rfl, by rw [← hK]; exact seqT_mono s1.fh q1, fun q n => h1.newTup s1 n q2.rev⟩
    | _ => exact h1.elim⟩
end
theorem eRevA_ap (fa : EF) (ρ : RS) (g : G) : eRevA fa ρ g = (fa ρ g).bind fun x g1 => match x with
  | .list xs => .ok (.list xs.reverse) g1
  | .tuple xs => .ok (.tuple xs.reverse) g1
  | _ => .bad := Eq.trans rfl rfl
end DL
namespace DL
open PySem
open PySem.Spec
open PyProof.Rows
open L2
theorem tup_once (l : Addr) (items : Array Value) (n : Nat)
    (dd : Option Addr) (sl : Array (Option Value)) (u : Tok)
    (c1 : (items.isEmpty || (1 : Int) == 1) = true) :
    Meets (Builtin.«tuple.__mul__» ⟨[.ref l, .int 1 u], []⟩)
      (fun _ R s => s.heap.get? l = some { cls := .type "tuple", dict := dd, data := .seq items n, slots := sl } ∧
        R (.ok (.ret (Value.ref l))) s) :=
  .of_wp fun prog w A R s h => by
    obtain ⟨hp, g, d, tk, os⟩ := s
    obtain ⟨hl, h⟩ := h
    have f1 := AutoSeq1.idx_int
    wp_walk using wpAny_loadPart' hl
    repeat (first
      | (refine wpAny_ite_false (by decide) ?_; wp_walk using wpAny_loadPart' hl)
      | (refine wpAny_ite_true c1 ?_; wp_walk using wpAny_loadPart' hl))
    exact ⟨_, rfl, h⟩
def rOnceT (K : PySem.W.Frag) : R2 := fun x y H Q =>
  ∃ l xs, x = .ref l ∧ y = .int 1 ∧ SqT K H l xs ∧ xs ≠ [] ∧ Q (.ref l) H
section
variable {X : Cx}
theorem op_onceT : OpR X (binaryOp .Mult) (rOnceT X.K) := by
  intro pins s σ H x y v u Q I rx ry h
  obtain ⟨l, xs, rfl, rfl, hT, hne, q⟩ := h
  cases rx
  obtain ⟨t, rfl⟩ := ry
  obtain ⟨its, r, ⟨⟨cls, dd, data, sl⟩, ho, hc, n, hd⟩, hs⟩ := I.tuple hT
  simp only at hc hd
  subst hc hd
  have c1 : (its.toArray.isEmpty || (1 : Int) == 1) = true := Bool.or_true _
  have hq : ∃ v' H', L2.RelV v' (.ref l) ∧ True := ⟨.ref l, H, rfl, trivial⟩
  refine wpAny_binaryOp_repeat_ref (T := "tuple") (U := "int") (by decide)
    ⟨_, ho, rfl⟩ (fun s' => typeIs_int s' 1 t) noFill_tuple_mul F.fills_int_mul
    F.slot_int_rmul repeat_tuple F.slot_int_index.lookup
    (call_meets F.slot_int_rmul (typeIs_int s 1 t) F.entry_int_rmul
      (F.args_int_rmul_2 _ _) (int_rmul_tuple 1 t l its.toArray n dd sl)
      ⟨ho, rfl, ⟨_, ho, rfl⟩,
        call_meets F.slot_tuple_mul ⟨_, ho, rfl⟩ F.entry_tuple_mul
          (F.args_tuple_mul_2 _ _) (tup_once l its.toArray n dd sl t c1) ⟨ho, ?_⟩⟩)
  exact ⟨.ref l, H, I, rfl, q⟩
end
def rMulT (K : PySem.W.Frag) : R2 := fun x y H Q => rOnceT K x y H Q ∨ rRepT K x y H Q
theorem op_mulT {X : Cx} : OpR X (binaryOp .Mult) (rMulT X.K) := op_onceT.or op_repT
def opMulT (x y : D) (g : G) : Out D := match x, y with
  | .tuple xs, .int k => if 1 ≤ k ∧ k ≤ 1000 ∧ 1 ≤ xs.length ∧ xs.length ≤ 1000 then .ok (.tuple (List.replicate k.toNat xs).flatten) g else .bad
  | _, _ => .bad
section
variable {X : Cx} {c : Ctx} {W : WX} {pos : Pos} {a b : Expr} {fa fb : EF}
theorem k_mulT : Keeps2 c W (rMulT c.K) opMulT := by
  intro σ ρ g F H x y dx dy Q s rx ry h
  unfold opMulT at h
  split at h
  · rename_i xs k
    obtain ⟨l, vs, rfl, h1, h2⟩ := rx.tuple
    cases ry.int
    obtain ⟨⟨k1, k2, k3, k4⟩, h⟩ := h.ite
    have hne : vs ≠ [] := fun e => by
      have := h2.len
      rw [e, List.length_nil] at this
      omega
    by_cases e1 : k = 1
    · subst e1
      have er : (List.replicate (1 : Int).toNat xs).flatten = xs := by
        show (List.replicate 1 xs).flatten = xs
        rw [List.replicate_one, List.flatten_cons, List.flatten_nil, List.append_nil]
      rw [er] at h
      exact .inl ⟨l, vs, rfl, rfl, seqT_mono s.fh h1, hne, h.now s rx⟩
    · exact .inr ⟨l, k, vs, rfl, rfl, seqT_mono s.fh h1, hne, by omega, k2, by rw [h2.len]; exact k4, fun p n => h.newTup s n (h2.rep _)⟩
  · exact h.elim
theorem d_mulT (hK : c.K = X.K) (ha : DE X c W a fa) (hb : DE X c W b fb) : DE X c W (.BinOp a .Mult b pos) (eBin opMulT fa fb) := d_bin op_mulT (by rw [← hK]; exact k_mulT) ha hb
end
def rSumA (K : PySem.W.Frag) : List V → Hp → VK → Prop := fun vs H Q =>
  ∃ (a : Addr) (ns : List Int), vs = [V.ref a] ∧ (SqL K H a (ns.map V.int) ∨ SqT K H a (ns.map V.int)) ∧ Q (.int ns.sum) H
theorem cr_sumA {X : Cx} (hc : X.calm = true) : CallR X (.builtin "sum") (rSumA X.K) := by
  intro pins s σ H vs us Q I r h
  obtain ⟨a, ns, rfl, hs, q⟩ := h
  rw [Vals.ref1 r]
  rcases hs with hs | hs
  · obtain ⟨its, rv, hl, _⟩ := I.list hs
    exact sum_raw (I.ok.hd hc) hl.isList rv.ints
      fun h' tk t' hk => ⟨.int _, H, I.kept hk, ⟨_, rfl⟩, q⟩
  · obtain ⟨its, rv, hl, _⟩ := I.tuple hs
    have hi := rv.ints
    obtain ⟨xs, e⟩ := hi.allInts.items
    have hn : numsOf (intItems xs).toList = ns := by
      rw [← e]
      exact hi.numsOf
    rw [nums_intItems] at hn
    rw [e] at hl
    refine PySem.W.ktm_sumG (I.ok.hd hc) hl fun h' tk t' hk => ?_
    rw [preSum_eq, List.take_of_length_le (by simp), hn]
    exact ⟨.int _, H, I.kept hk, ⟨_, rfl⟩, q⟩
def bSumA (ds : List D) (g : G) : Out D := match ds with
  | [.list xs] => match asInts xs with
    | some ns => .ok (.int ns.sum) g
    | none => .bad
  | [.tuple xs] => match asInts xs with
    | some ns => .ok (.int ns.sum) g
    | none => .bad
  | _ => .bad
section
variable {c : Ctx} {W : WX}
theorem rq_ints {K : PySem.W.Frag} {F : Hp} : ∀ {vs : List V} {ns : List Int}, RqAll K F vs (ns.map PyData.int) → vs = ns.map V.int
  | _, [], h => by cases h; rfl
  | _, n :: ns, h => by
    cases h with
    | cons h1 h2 =>
      cases h1
      rw [rq_ints h2]
      rfl
theorem kl_sumA : KeepsL c W (rSumA c.K) bSumA := by
  intro σ ρ g F H vs ds Q s r h
  unfold bSumA at h
  split at h
  · split at h
    · rename_i ns hn
      obtain ⟨v, rfl, rv⟩ := rep1 r
      rw [asInts_of hn] at rv
      obtain ⟨a, rfl, h1⟩ := rv.ints
      exact ⟨a, ns, rfl, .inl (SqL.of (s.fh _ _ h1)), h.now s rInt⟩
    · exact h.elim
  · split at h
    · rename_i ns hn
      obtain ⟨v, rfl, rv⟩ := rep1 r
      rw [asInts_of hn] at rv
      obtain ⟨a, ws, rfl, h1, h2⟩ := rv.tuple
      rw [rq_ints h2] at h1
      exact ⟨a, ns, rfl, .inr (seqT_mono s.fh h1), h.now s rInt⟩
    · exact h.elim
  · exact h.elim
end
theorem bSumA_tup {l : List Int} {g : G} : bSumA [.tuple (l.map PyData.int)] g = .ok (.int l.sum) g := by
  show (match asInts (l.map PyData.int) with | some ns => Out.ok (PyData.int ns.sum) g | none => .bad) = _
  rw [asInts_map]
end DL
namespace DL
open PySem
open PySem.Spec
open PyProof.Rows
open L2
theorem eV_ap (i : Nat) (ρ : RS) (g : G) : eV i ρ g = match ρ[i]? with
  | some (.d x) => .ok x g
  | _ => .bad := Eq.trans rfl rfl
theorem eC_ap (d : D) (ρ : RS) (g : G) : eC d ρ g = .ok d g := Eq.trans rfl rfl
theorem eBin_ap (φ : D → D → G → Out D) (fa fb : EF) (ρ : RS) (g : G) : eBin φ fa fb ρ g = (fa ρ g).bind fun x g1 => (fb ρ g1).bind fun y g2 => φ x y g2 := Eq.trans rfl rfl
theorem eNeg_ap (fa : EF) (ρ : RS) (g : G) : eNeg fa ρ g = (fa ρ g).bind fun x g1 => match x with
  | .int i => .ok (.int (-i)) g1
  | _ => .bad := Eq.trans rfl rfl
theorem tVal_ap (fa : EF) (ρ : RS) (g : G) : tVal fa ρ g = (fa ρ g).bind fun x g1 => match x with
  | .bool k => .ok k g1
  | _ => .bad := Eq.trans rfl rfl
theorem eIsN_ap (fa : EF) (ρ : RS) (g : G) : eIsN fa ρ g = (fa ρ g).bind fun x g1 => .ok (.bool (isNon x)) g1 := Eq.trans rfl rfl
theorem eNotN_ap (fa : EF) (ρ : RS) (g : G) : eNotN fa ρ g = (fa ρ g).bind fun x g1 => .ok (.bool (!isNon x)) g1 := Eq.trans rfl rfl
theorem eChain_ap (p q : Int → Int → Bool) (fa fb fc : EF) (ρ : RS) (g : G) : eChain p q fa fb fc ρ g = (fa ρ g).bind fun x g1 => (fb ρ g1).bind fun y g2 => match x, y with
  | .int i, .int j => if p i j = true then (fc ρ g2).bind fun z g3 => match z with
      | .int k => .ok (.bool (q j k)) g3
      | _ => .bad
    else .ok (.bool false) g2
  | _, _ => .bad := Eq.trans rfl rfl
theorem tAndF_ap (fa fb : TF) (ρ : RS) (g : G) : tAndF fa fb ρ g = (fa ρ g).bind fun k g1 => if k = true then fb ρ g1 else .ok false g1 := Eq.trans rfl rfl
theorem tOrF_ap (fa fb : TF) (ρ : RS) (g : G) : tOrF fa fb ρ g = (fa ρ g).bind fun k g1 => if k = true then .ok true g1 else fb ρ g1 := Eq.trans rfl rfl
theorem tNotF_ap (fa : TF) (ρ : RS) (g : G) : tNotF fa ρ g = (fa ρ g).bind fun k g1 => .ok (!k) g1 := Eq.trans rfl rfl
theorem tTru_ap (fa : EF) (ρ : RS) (g : G) : tTru fa ρ g = (fa ρ g).bind fun x g1 => match truD x with
  | some k => .ok k g1
  | none => .bad := Eq.trans rfl rfl
theorem eAnd_ap (fa fb : EF) (ρ : RS) (g : G) : eAnd fa fb ρ g = (fa ρ g).bind fun x g1 => match x with
  | .bool k => if k = true then fb ρ g1 else .ok (.bool false) g1
  | _ => .bad := Eq.trans rfl rfl
theorem eOr_ap (fa fb : EF) (ρ : RS) (g : G) : eOr fa fb ρ g = (fa ρ g).bind fun x g1 => match x with
  | .bool k => if k = true then .ok (.bool true) g1 else fb ρ g1
  | _ => .bad := Eq.trans rfl rfl
theorem eNot_ap (fa : EF) (ρ : RS) (g : G) : eNot fa ρ g = (fa ρ g).bind fun x g1 => match x with
  | .bool k => .ok (.bool (!k)) g1
  | _ => .bad := Eq.trans rfl rfl
theorem eIf_ap (t : TF) (fa fb : EF) (ρ : RS) (g : G) : eIf t fa fb ρ g = (t ρ g).bind fun k g1 => if k = true then fa ρ g1 else fb ρ g1 := Eq.trans rfl rfl
theorem aNil_ap (ρ : RS) (g : G) : aNil ρ g = .ok [] g := Eq.trans rfl rfl
theorem aCons_ap (fe : EF) (fs : AF) (ρ : RS) (g : G) : aCons fe fs ρ g = (fe ρ g).bind fun x g1 => (fs ρ g1).bind fun xs g2 => .ok (x :: xs) g2 := Eq.trans rfl rfl
theorem eTup_ap (fs : AF) (ρ : RS) (g : G) : eTup fs ρ g = (fs ρ g).bind fun xs g1 => if noTok xs = true ∧ xs.length ≤ LIM then .ok (.tuple xs) g1 else .bad := Eq.trans rfl rfl
theorem eLst_ap (fs : AF) (ρ : RS) (g : G) : eLst fs ρ g = (fs ρ g).bind fun xs g1 => if noTok xs = true ∧ xs.length ≤ LIM then .ok (.list xs) g1 else .bad := Eq.trans rfl rfl
theorem oNone_ap (ρ : RS) (g : G) : oNone ρ g = .ok none g := Eq.trans rfl rfl
theorem oSome_ap (fe : EF) (ρ : RS) (g : G) : oSome fe ρ g = (fe ρ g).bind fun x g1 => match x with
  | .int i => .ok (some i) g1
  | _ => .bad := Eq.trans rfl rfl
theorem eSl_ap (fa : EF) (fl fh : OF) (ρ : RS) (g : G) : eSl fa fl fh ρ g = (fa ρ g).bind fun x g1 => (fl ρ g1).bind fun lo g2 => (fh ρ g2).bind fun hi g3 => match x with
  | .list xs => .ok (.list (cutD xs lo hi)) g3
  | .tuple xs => .ok (.tuple (cutD xs lo hi)) g3
  | _ => .bad := Eq.trans rfl rfl
theorem eCall_ap (φ : List D → G → Out D) (fs : AF) (ρ : RS) (g : G) : eCall φ fs ρ g = (fs ρ g).bind φ := Eq.trans rfl rfl
theorem iLst_ap (fe : EF) (ρ : RS) (g : G) : iLst fe ρ g = (fe ρ g).bind fun x g1 => match x with
  | .list xs => .ok xs g1
  | _ => .bad := Eq.trans rfl rfl
theorem iTpl_ap (fe : EF) (ρ : RS) (g : G) : iTpl fe ρ g = (fe ρ g).bind fun x g1 => match x with
  | .tuple xs => .ok xs g1
  | _ => .bad := Eq.trans rfl rfl
theorem iRan2_ap (fs : AF) (ρ : RS) (g : G) : iRan2 fs ρ g = (fs ρ g).bind fun xs g1 => match xs with
  | [.int i, .int j] => if -(2 ^ 62) ≤ i ∧ i < 2 ^ 62 ∧ -(2 ^ 62) ≤ j ∧ j < 2 ^ 62 then .ok (upTo i (j - i).toNat) g1 else .bad
  | _ => .bad := Eq.trans rfl rfl
theorem eOf_ap (f : OF') (ρ : RS) (g : G) : eOf f ρ g = (f ρ g).bind fun ds g1 => .ok (.list ds) g1 := Eq.trans rfl rfl
theorem oLst_ap (fs : AF) (ρ : RS) (g : G) : oLst fs ρ g = (fs ρ g).bind fun xs g1 => if noTok xs = true ∧ xs.length ≤ LIM then .ok xs g1 else .bad := Eq.trans rfl rfl
theorem oCat_ap (fa fb : EF) (ρ : RS) (g : G) : oCat fa fb ρ g = (fa ρ g).bind fun x g1 => (fb ρ g1).bind fun y g2 => match x, y with
  | .list i, .list j => if i.length + j.length ≤ LIM then .ok (i ++ j) g2 else .bad
  | _, _ => .bad := Eq.trans rfl rfl
theorem oRep_ap (fa fb : EF) (ρ : RS) (g : G) : oRep fa fb ρ g = (fa ρ g).bind fun x g1 => (fb ρ g1).bind fun y g2 => match x, y with
  | .list xs, .int k => if k ≤ LIM ∧ -(2 ^ 62) ≤ k ∧ xs.length * k.toNat ≤ LIM then .ok (List.replicate k.toNat xs).flatten g2 else .bad
  | _, _ => .bad := Eq.trans rfl rfl
theorem oSl_ap (fa : EF) (fl fh : OF) (ρ : RS) (g : G) : oSl fa fl fh ρ g = (fa ρ g).bind fun x g1 => (fl ρ g1).bind fun lo g2 => (fh ρ g2).bind fun hi g3 => match x with
  | .list xs => .ok (cutD xs lo hi) g3
  | _ => .bad := Eq.trans rfl rfl
theorem oList_ap (fs : AF) (ρ : RS) (g : G) : oList fs ρ g = (fs ρ g).bind fun ds g1 => match ds with
  | [.list xs] => .ok xs g1
  | [.tuple xs] => .ok xs g1
  | _ => .bad := Eq.trans rfl rfl
theorem oComp_ap (vs : List Nat) (fi : LF) (b : BF) (ft : TF) (fe : EF) (ρ : RS) (g : G) : oComp vs fi b ft fe ρ g = (fi ρ g).bind fun items g1 => if items.length ≤ LIM then compF b ft fe (wipeR ρ vs) items g1 else .bad := Eq.trans rfl rfl
theorem tYesF_ap (ρ : RS) (g : G) : tYesF ρ g = .ok true g := Eq.trans rfl rfl
theorem sNil_ap (ρ : RS) (g : G) : sNil ρ g = .nx ρ g := Eq.trans rfl rfl
theorem sSeq_ap (f k : SF) (ρ : RS) (g : G) : sSeq f k ρ g = match f ρ g with
  | .nx ρ' g' => k ρ' g'
  | o => o := Eq.trans rfl rfl
theorem sBrk_ap (ρ : RS) (g : G) : sBrk ρ g = .bk ρ g := Eq.trans rfl rfl
theorem sCnt_ap (ρ : RS) (g : G) : sCnt ρ g = .ct ρ g := Eq.trans rfl rfl
theorem sExpr_ap (fe : EF) (ρ : RS) (g : G) : sExpr fe ρ g = (fe ρ g).go ρ fun _ g1 => .nx ρ g1 := Eq.trans rfl rfl
theorem sRet_ap (fe : EF) (ρ : RS) (g : G) : sRet fe ρ g = (fe ρ g).go ρ fun d g1 => .rt d g1 := Eq.trans rfl rfl
theorem sRetN_ap (ρ : RS) (g : G) : sRetN ρ g = .rt .none g := Eq.trans rfl rfl
theorem sIf_ap (t : TF) (f k : SF) (ρ : RS) (g : G) : sIf t f k ρ g = (t ρ g).go ρ fun b g1 => if b = true then f ρ g1 else k ρ g1 := Eq.trans rfl rfl
theorem sSet_ap (i : Nat) (fe : EF) (ρ : RS) (g : G) : sSet i fe ρ g = (fe ρ g).go ρ fun d g1 => .nx (ρ.set i (.d d)) g1 := Eq.trans rfl rfl
theorem sSetO_ap (i : Nat) (fo : OF') (ρ : RS) (g : G) : sSetO i fo ρ g = (fo ρ g).go ρ fun ds g1 => .nx (ρ.set i (.own ds)) g1 := Eq.trans rfl rfl
theorem sAsg_ap (b : BF) (fe : EF) (ρ : RS) (g : G) : sAsg b fe ρ g = (fe ρ g).go ρ fun d g1 => match b d ρ with
  | some ρ' => .nx ρ' g1
  | none => .bad := Eq.trans rfl rfl
theorem sPar_ap (i j : Nat) (fs : AF) (ρ : RS) (g : G) : sPar i j fs ρ g = (fs ρ g).go ρ fun ds g1 => match ds with
  | [x, y] => .nx ((ρ.set i (.d x)).set j (.d y)) g1
  | _ => .bad := Eq.trans rfl rfl
theorem sPar3_ap (i j l : Nat) (fs : AF) (ρ : RS) (g : G) : sPar3 i j l fs ρ g = (fs ρ g).go ρ fun ds g1 => match ds with
  | [x, y, z] => .nx (((ρ.set i (.d x)).set j (.d y)).set l (.d z)) g1
  | _ => .bad := Eq.trans rfl rfl
theorem sAug_ap (i : Nat) (φ : Int → Int → Int) (fe : EF) (ρ : RS) (g : G) : sAug i φ fe ρ g = match ρ[i]? with
  | some (.d (.int a)) => (fe ρ g).go ρ fun d g1 => match d with
    | .int b => .nx (ρ.set i (.d (.int (φ a b)))) g1
    | _ => .bad
  | _ => .bad := Eq.trans rfl rfl
theorem sApp_ap (i : Nat) (fe : EF) (ρ : RS) (g : G) : sApp i fe ρ g = match ρ[i]? with
  | some (.own xs) => (fe ρ g).go ρ fun d g1 => if xs.length < LIM ∧ noTok [d] = true then .nx (ρ.set i (.own (xs ++ [d]))) g1 else .bad
  | _ => .bad := Eq.trans rfl rfl
theorem sExt_ap (i : Nat) (fe : EF) (ρ : RS) (g : G) : sExt i fe ρ g = match ρ[i]? with
  | some (.own xs) => (fe ρ g).go ρ fun d g1 => match d with
    | .list ys => if xs.length + ys.length ≤ LIM then .nx (ρ.set i (.own (xs ++ ys))) g1 else .bad
    | _ => .bad
  | _ => .bad := Eq.trans rfl rfl
theorem sSetIx_ap (i : Nat) (fe fj : EF) (ρ : RS) (g : G) : sSetIx i fe fj ρ g = match ρ[i]? with
  | some (.own xs) => (fe ρ g).go ρ fun d g1 => (fj ρ g1).go ρ fun j g2 => match j with
    | .int n => match ixN xs.length n with
      | some m => if noTok [d] = true then .nx (ρ.set i (.own (xs.set m d))) g2 else .bad
      | none => .bad
    | _ => .bad
  | _ => .bad := Eq.trans rfl rfl
theorem sFrz_ap (i : Nat) (f : SF) (ρ : RS) (g : G) : sFrz i f ρ g = match ρ[i]? with
  | some (.own xs) => f (ρ.set i (.d (.list xs))) g
  | _ => f ρ g := Eq.trans rfl rfl
theorem eIxO_ap (i : Nat) (fj : EF) (ρ : RS) (g : G) : eIxO i fj ρ g = match ρ[i]? with
  | some (.own xs) => (fj ρ g).bind fun j g1 => match j with
    | .int n => match atI xs n with
      | some d => .ok d g1
      | none => .bad
    | _ => .bad
  | _ => .bad := Eq.trans rfl rfl
theorem eLenO_ap (i : Nat) (ρ : RS) (g : G) : eLenO i ρ g = match ρ[i]? with
  | some (.own xs) => .ok (.int xs.length) g
  | _ => .bad := Eq.trans rfl rfl
theorem eIxA_ap (i : Nat) (fj : EF) (ρ : RS) (g : G) : eIxA i fj ρ g = match ρ[i]? with
  | some (.d x) => (fj ρ g).bind fun j g1 => opIx x j g1
  | _ => eIxO i fj ρ g := Eq.trans rfl rfl
theorem eLenA_ap (i : Nat) (ρ : RS) (g : G) : eLenA i ρ g = match ρ[i]? with
  | some (.d (.list xs)) => .ok (.int xs.length) g
  | _ => eLenO i ρ g := Eq.trans rfl rfl
theorem vOf_ap (fs : AF) (ρ : RS) (g : G) : vOf fs ρ g = (fs ρ g).bind fun ds g1 => .ok (ds.map .d) g1 := Eq.trans rfl rfl
theorem vCons_ap (fe : EF) (fs : VF) (ρ : RS) (g : G) : vCons fe fs ρ g = (fe ρ g).bind fun x g1 => (fs ρ g1).bind fun ss g2 => .ok (.d x :: ss) g2 := Eq.trans rfl rfl
theorem vOwn_ap (fo : OF') (fs : AF) (ρ : RS) (g : G) : vOwn fo fs ρ g = (fo ρ g).bind fun xs g1 => (fs ρ g1).bind fun ds g2 => .ok (.own xs :: ds.map .d) g2 := Eq.trans rfl rfl
theorem vOwn2_ap (fo fo2 : OF') (fs : AF) (ρ : RS) (g : G) : vOwn2 fo fo2 fs ρ g = (fo ρ g).bind fun xs g1 => (vOwn fo2 fs ρ g1).bind fun ss g2 => .ok (.own xs :: ss) g2 := Eq.trans rfl rfl
theorem sTup_ap (is : List Nat) (fv : VF) (ρ : RS) (g : G) : sTup is fv ρ g = (fv ρ g).go ρ fun ss g1 => if ss.length = is.length then .nx (setAll ρ is ss) g1 else .bad := Eq.trans rfl rfl
theorem iSeq_ap (fe : EF) (ρ : RS) (g : G) : iSeq fe ρ g = (fe ρ g).bind fun x g1 => match x with
  | .list xs => .ok xs g1
  | .tuple xs => .ok xs g1
  | _ => .bad := Eq.trans rfl rfl
theorem sRaise_ap (n fld : Str) (fe : EF) (ρ : RS) (g : G) : sRaise n fld fe ρ g = (fe ρ g).go ρ fun d g1 => match d with
  | .str z => if z.length ≤ LIM then .exc n [(fld, .str z)] ρ g1 else .bad
  | _ => .bad := Eq.trans rfl rfl
theorem sTry_ap (i : Nat) (n : Str) (fb fh : SF) (ρ : RS) (g : G) : sTry i n fb fh ρ g = match fb ρ g with
  | .exc m fs ρ1 g1 => if m = n then (if noEx ρ1 = true then (match fh (ρ1.set i (.ex fs)) g1 with
      | .nx ρ2 g2 => if noEx (ρ2.set i .un) = true then .nx (ρ2.set i .un) g2 else .bad
      | .bk ρ2 g2 => if noEx (ρ2.set i .un) = true then .bk (ρ2.set i .un) g2 else .bad
      | .ct ρ2 g2 => if noEx (ρ2.set i .un) = true then .ct (ρ2.set i .un) g2 else .bad
      | .rt d g2 => .rt d g2
      | _ => .bad) else .bad) else .exc m fs ρ1 g1
  | o => o := Eq.trans rfl rfl
theorem eExF_ap (i : Nat) (f : Str) (ρ : RS) (g : G) : eExF i f ρ g = match ρ[i]? with
  | some (.ex fs) => match fs.lookup f with
    | some d => .ok d g
    | none => .bad
  | _ => .bad := Eq.trans rfl rfl
theorem tIfF_ap (t a b : TF) (ρ : RS) (g : G) : tIfF t a b ρ g = (t ρ g).bind fun k g1 => if k = true then a ρ g1 else b ρ g1 := Eq.trans rfl rfl
theorem eRev_ap (fa : EF) (ρ : RS) (g : G) : eRev fa ρ g = (fa ρ g).bind fun x g1 => match x with
  | .list xs => .ok (.list xs.reverse) g1
  | _ => .bad := Eq.trans rfl rfl
theorem eRevF_ap (fa fi : EF) (ρ : RS) (g : G) : eRevF fa fi ρ g = (fa ρ g).bind fun x g1 => match x with
  | .list xs => (fi ρ g1).bind fun y g2 => match y with
    | .int i => .ok (.list (xs.take (rvN xs.length i)).reverse) g2
    | _ => .bad
  | _ => .bad := Eq.trans rfl rfl
def SO.th : SO → (RS → G → SO) → SO
  | .nx ρ g, k => k ρ g
  | o, _ => o
theorem th_nx {ρ : RS} {g : G} {k : RS → G → SO} : (SO.nx ρ g).th k = k ρ g := Eq.trans rfl rfl
theorem th_rt {d : D} {g : G} {k : RS → G → SO} : (SO.rt d g).th k = .rt d g := Eq.trans rfl rfl
theorem th_bk {ρ : RS} {g : G} {k : RS → G → SO} : (SO.bk ρ g).th k = .bk ρ g := Eq.trans rfl rfl
theorem th_ct {ρ : RS} {g : G} {k : RS → G → SO} : (SO.ct ρ g).th k = .ct ρ g := Eq.trans rfl rfl
theorem th_exc {n : Str} {fs : List (Str × D)} {ρ : RS} {g : G} {k : RS → G → SO} : (SO.exc n fs ρ g).th k = .exc n fs ρ g := Eq.trans rfl rfl
theorem sSeq_th (f k : SF) (ρ : RS) (g : G) : sSeq f k ρ g = (f ρ g).th k := by
  unfold sSeq SO.th
  cases f ρ g <;> rfl
theorem bind_ok {α β : Type} {a : α} {g : G} {k : α → G → Out β} : (Out.ok a g).bind k = k a g := Eq.trans rfl rfl
theorem bind_exc {α β : Type} {n : Str} {fs : List (Str × D)} {g : G} {k : α → G → Out β} : (Out.exc n fs g : Out α).bind k = .exc n fs g := Eq.trans rfl rfl
theorem go_ok {α : Type} {a : α} {g : G} {ρ : RS} {k : α → G → SO} : (Out.ok a g).go ρ k = k a g := Eq.trans rfl rfl
theorem go_exc {α : Type} {n : Str} {fs : List (Str × D)} {g : G} {ρ : RS} {k : α → G → SO} : (Out.exc n fs g : Out α).go ρ k = .exc n fs ρ g := Eq.trans rfl rfl
theorem opAdd_int {i j : Int} {g : G} : opAdd (.int i) (.int j) g = .ok (.int (i + j)) g := Eq.trans rfl rfl
theorem opSub_int {i j : Int} {g : G} : opSub (.int i) (.int j) g = .ok (.int (i - j)) g := Eq.trans rfl rfl
theorem opMul_a {i j : Int} {g : G} (h1 : -18446744073709551616 < i) (h2 : i < 18446744073709551616) : opMul (.int i) (.int j) g = .ok (.int (i * j)) g := by
  show (if _ then _ else _) = _
  exact if_pos (.inl ⟨h1, h2⟩)
theorem opMul_b {i j : Int} {g : G} (h1 : -18446744073709551616 < j) (h2 : j < 18446744073709551616) : opMul (.int i) (.int j) g = .ok (.int (i * j)) g := by
  show (if _ then _ else _) = _
  exact if_pos (.inr (.inl ⟨h1, h2⟩))
theorem mulOk_wide {i j : Int} (h1 : i.natAbs < 2 ^ 4000) (h2 : j.natAbs < 2 ^ 4000) : MulOk i j := by
  have l : ∀ n : Nat, n < 2 ^ 4000 → n.log2 < 4000 := fun n h => by
    by_cases hn : n = 0
    · subst hn; decide
    · exact (Nat.log2_lt hn).mpr h
  have := l _ h1
  have := l _ h2
  exact .inr (.inr (by omega))
theorem opMul_ok {i j : Int} {g : G} (h : MulOk i j) : opMul (.int i) (.int j) g = .ok (.int (i * j)) g := by
  show (if _ then _ else _) = _
  exact if_pos h
theorem opDiv_pos {i j : Int} {g : G} (h1 : 0 < j) (h2 : j < 1073741824) : opDiv (.int i) (.int j) g = .ok (.int (i / j)) g := by
  show (if _ then _ else _) = _
  rw [if_pos (.inl ⟨by omega, by omega⟩), Int.fdiv_eq_ediv_of_nonneg i (by omega)]
theorem opDiv_wide {i j : Int} {g : G} (h1 : 0 < j) (h2 : j < 1606938044258990275541962092341162602522202993782792835301376) : opDiv (.int i) (.int j) g = .ok (.int (i / j)) g := by
  have hl : j.natAbs.log2 < 9000 := by
    refine Nat.lt_trans ((Nat.log2_lt (by omega)).mpr (?_ : j.natAbs < 2 ^ 200)) (by decide)
    have e : (2 ^ 200 : Nat) = 1606938044258990275541962092341162602522202993782792835301376 := by decide
    rw [e]
    omega
  show (if _ then _ else _) = _
  rw [if_pos (.inr ⟨h1, hl⟩), Int.fdiv_eq_ediv_of_nonneg i (by omega)]
theorem opMod_pos {i j : Int} {g : G} (h1 : 0 < j) : opMod (.int i) (.int j) g = .ok (.int (i % j)) g := by
  show (if _ then _ else _) = _
  rw [if_pos (by omega), Int.fmod_eq_emod_of_nonneg i (by omega)]
theorem opI_int {p : Int → Int → Bool} {i j : Int} {g : G} : opI p (.int i) (.int j) g = .ok (.bool (p i j)) g := Eq.trans rfl rfl
theorem shp_int {i : Int} : shp (.int i) = true := rfl
theorem shp_bool {i : Bool} : shp (.bool i) = true := rfl
theorem shp_none : shp .none = true := rfl
theorem opEq_shp {x y : D} {g : G} (h1 : shp x = true) (h2 : shp y = true) : opEq x y g = .ok (.bool (PyData.eqv x y)) g := if_pos ⟨h1, h2⟩
theorem opNe_shp {x y : D} {g : G} (h1 : shp x = true) (h2 : shp y = true) : opNe x y g = .ok (.bool (!PyData.eqv x y)) g := if_pos ⟨h1, h2⟩
theorem opEq_int {i j : Int} {g : G} : opEq (.int i) (.int j) g = .ok (.bool (decide (i = j))) g := by
  rw [opEq_shp shp_int shp_int]
  rfl
theorem opNe_int {i j : Int} {g : G} : opNe (.int i) (.int j) g = .ok (.bool (!decide (i = j))) g := by
  rw [opNe_shp shp_int shp_int]
  rfl
theorem opNe_bool {i j : Bool} {g : G} : opNe (.bool i) (.bool j) g = .ok (.bool (!(i == j))) g := by
  rw [opNe_shp shp_bool shp_bool]
  rfl
theorem opEq_bool {i j : Bool} {g : G} : opEq (.bool i) (.bool j) g = .ok (.bool (i == j)) g := by
  rw [opEq_shp shp_bool shp_bool]
  rfl
theorem atI_0 {α : Type} {x : α} {xs : List α} : atI (x :: xs) 0 = some x := atI0 (j := 0) rfl rfl
theorem atI_1 {α : Type} {x y : α} {xs : List α} : atI (x :: y :: xs) 1 = some y := atI0 (j := 1) rfl rfl
theorem atI_2 {α : Type} {x y z : α} {xs : List α} : atI (x :: y :: z :: xs) 2 = some z := atI0 (j := 2) rfl rfl
theorem atI_3 {α : Type} {x y z u : α} {xs : List α} : atI (x :: y :: z :: u :: xs) 3 = some u := atI0 (j := 3) rfl rfl
theorem atI_n {α : Type} {xs : List α} {i : Int} (h0 : 0 ≤ i) : atI xs i = xs[i.toNat]? := by
  by_cases h : i < xs.length
  · have := List.getElem?_eq_getElem (l := xs) (i := i.toNat) (by omega)
    rw [this]
    exact atI0 (j := i.toNat) (by omega) this
  · unfold atI ixN
    rw [if_pos h0, if_neg h, List.getElem?_eq_none (by omega)]
    rfl
theorem atI_neg {α : Type} {xs : List α} {i : Int} (h0 : i < 0) (h1 : 0 ≤ i + xs.length) : atI xs i = xs[(i + xs.length).toNat]? := by
  unfold atI ixN
  rw [if_neg (by omega)]
  split
  · rename_i h
    show xs[_]? = _
    congr 1
    all_goals omega
  · rename_i h
    exact absurd h (by omega)
theorem atI_m1 {α : Type} {xs : List α} {x : α} : atI (xs ++ [x]) (-1) = some x := atI_last xs x
theorem opIx_list {xs : List D} {i : Int} {g : G} : opIx (.list xs) (.int i) g = match atI xs i with | some d => .ok d g | none => .bad := Eq.trans rfl rfl
theorem opIx_tuple {xs : List D} {i : Int} {g : G} : opIx (.tuple xs) (.int i) g = match atI xs i with | some d => .ok d g | none => .bad := Eq.trans rfl rfl
theorem p62 : (2 : Int) ^ 62 = 4611686018427387904 := by decide
def ran1 (xs : List D) (g1 : G) : Out (List D) := match xs with
  | [.int j] => if -(2 ^ 62) ≤ j ∧ j < 2 ^ 62 then .ok (upTo 0 j.toNat) g1 else .bad
  | _ => .bad
def ran2 (xs : List D) (g1 : G) : Out (List D) := match xs with
  | [.int i, .int j] => if -(2 ^ 62) ≤ i ∧ i < 2 ^ 62 ∧ -(2 ^ 62) ≤ j ∧ j < 2 ^ 62 then .ok (upTo i (j - i).toNat) g1 else .bad
  | _ => .bad
theorem ran1_int {j : Int} {g : G} (h1 : -4611686018427387904 ≤ j) (h2 : j < 4611686018427387904) : ran1 [.int j] g = .ok (upTo 0 j.toNat) g := by
  rw [← p62] at h1 h2
  exact if_pos ⟨h1, h2⟩
theorem ran2_int {i j : Int} {g : G} (h1 : -4611686018427387904 ≤ i) (h2 : i < 4611686018427387904) (h3 : -4611686018427387904 ≤ j) (h4 : j < 4611686018427387904) : ran2 [.int i, .int j] g = .ok (upTo i (j - i).toNat) g := by
  rw [← p62] at h1 h2 h3 h4
  exact if_pos ⟨h1, h2, h3, h4⟩
theorem iRan1_ap (fs : AF) (ρ : RS) (g : G) : iRan1 fs ρ g = (fs ρ g).bind ran1 := Eq.trans rfl rfl
theorem iRan2_apN (fs : AF) (ρ : RS) (g : G) : iRan2 fs ρ g = (fs ρ g).bind ran2 := Eq.trans rfl rfl
theorem bLen_list {xs : List D} {g : G} : bLen [.list xs] g = .ok (.int xs.length) g := Eq.trans rfl rfl
theorem bLen_tuple {xs : List D} {g : G} : bLen [.tuple xs] g = .ok (.int xs.length) g := Eq.trans rfl rfl
theorem bInt_int {i : Int} {g : G} : bInt [.int i] g = .ok (.int i) g := Eq.trans rfl rfl
theorem bAbs_int {i : Int} {g : G} : bAbs [.int i] g = .ok (.int (if i < 0 then -i else i)) g := Eq.trans rfl rfl
theorem LIM_eq : LIM = 1000000 := Eq.trans rfl rfl
theorem mOf_run {n np : Nat} {f : SF} {ds : List D} {g : G} (h : ds.length = np) : mOf n np f ds g = runB n f ds g := if_pos h
theorem run_rt {n : Nat} {f : SF} {ds : List D} {g g1 : G} {d : D} (h : f (startR n ds) g = .rt d g1) : runB n f ds g = .ok d g1 := by
  unfold runB
  rw [h]
theorem run_nx {n : Nat} {f : SF} {ds : List D} {g g1 : G} {ρ : RS} (h : f (startR n ds) g = .nx ρ g1) : runB n f ds g = .ok .none g1 := by
  unfold runB
  rw [h]
theorem run_exc {n : Nat} {f : SF} {ds : List D} {g g1 : G} {m : Str} {fs : List (Str × D)} {ρ : RS} (h : f (startR n ds) g = .exc m fs ρ g1) : runB n f ds g = .exc m fs g1 := by
  unfold runB
  rw [h]
theorem m_rt {n np : Nat} {f : SF} {ds : List D} {g g1 : G} {d : D} (hl : ds.length = np) (h : f (startR n ds) g = .rt d g1) : mOf n np f ds g = .ok d g1 := (mOf_run hl).trans (run_rt h)
theorem m_nx {n np : Nat} {f : SF} {ds : List D} {g g1 : G} {ρ : RS} (hl : ds.length = np) (h : f (startR n ds) g = .nx ρ g1) : mOf n np f ds g = .ok .none g1 := (mOf_run hl).trans (run_nx h)
theorem m_exc {n np : Nat} {f : SF} {ds : List D} {g g1 : G} {m : Str} {fs : List (Str × D)} {ρ : RS} (hl : ds.length = np) (h : f (startR n ds) g = .exc m fs ρ g1) : mOf n np f ds g = .exc m fs g1 := (mOf_run hl).trans (run_exc h)
theorem seq_nx {f k : SF} {ρ ρ1 : RS} {g g1 : G} {o : SO} (h : f ρ g = .nx ρ1 g1) (h2 : k ρ1 g1 = o) : sSeq f k ρ g = o := by
  rw [sSeq_th, h]
  exact h2
theorem while_run {t : TF} {f : SF} (P : Nat → RS → G → Prop) (R : RS → G → Prop) (h : ∀ m ρ g, P m ρ g → (t ρ g = .ok false g ∧ R ρ g) ∨ (t ρ g = .ok true g ∧ ∃ m' ρ' g', m' < m ∧ (f ρ g = .nx ρ' g' ∨ f ρ g = .ct ρ' g') ∧ P m' ρ' g')) :
    ∀ n m ρ g, P m ρ g → m < n → ∃ ρ' g', R ρ' g' ∧ whileF t f n ρ g = .nx ρ' g'
  | 0, _, _, _, _, h => absurd h (Nat.not_lt_zero _)
  | n + 1, m, ρ, g, p, hm => by
    rcases h m ρ g p with ⟨h1, r⟩ | ⟨h1, m', ρ', g', h2, h3, h4⟩
    · refine ⟨ρ, g, r, ?_⟩
      unfold whileF
      rw [h1]
      rfl
    · obtain ⟨ρ2, g2, r, e⟩ := while_run P R h n m' ρ' g' h4 (by omega)
      refine ⟨ρ2, g2, r, ?_⟩
      unfold whileF
      rw [h1]
      rcases h3 with h3 | h3
      · simp only [Out.go, if_true, h3]; exact e
      · simp only [Out.go, if_true, h3]; exact e
theorem sWhile_run {t : TF} {f : SF} {N m : Nat} {ρ : RS} {g : G} (P : Nat → RS → G → Prop) (R : RS → G → Prop) (p : P m ρ g) (hm : m < N) (h : ∀ m ρ g, P m ρ g → (t ρ g = .ok false g ∧ R ρ g) ∨ (t ρ g = .ok true g ∧ ∃ m' ρ' g', m' < m ∧ (f ρ g = .nx ρ' g' ∨ f ρ g = .ct ρ' g') ∧ P m' ρ' g')) :
    ∃ ρ' g', R ρ' g' ∧ sWhile N t f ρ g = .nx ρ' g' := while_run P R h N m ρ g p hm
theorem for_run {b : BF} {f : SF} (items : List D) (P : Nat → RS → G → Prop) (h : ∀ i (hi : i < items.length) ρ g, P i ρ g → ∃ ρ1 ρ2 g2, b items[i] ρ = some ρ1 ∧ (f ρ1 g = .nx ρ2 g2 ∨ f ρ1 g = .ct ρ2 g2) ∧ P (i + 1) ρ2 g2) :
    ∀ ρ g, P 0 ρ g → ∃ ρ' g', P items.length ρ' g' ∧ forL b f items ρ g = .nx ρ' g' := by
  have go : ∀ (k : Nat) (xs : List D) (i : Nat), items.drop i = xs → xs.length = k → i ≤ items.length → ∀ ρ g, P i ρ g → ∃ ρ' g', P items.length ρ' g' ∧ forL b f xs ρ g = .nx ρ' g' := by
    intro k
    induction k with
    | zero =>
      intro xs i e hl hi ρ g p
      have : xs = [] := List.length_eq_zero_iff.mp hl
      subst this
      have : i = items.length := by
        have := congrArg List.length e
        rw [List.length_drop] at this
        simp at this
        omega
      subst this
      exact ⟨ρ, g, p, rfl⟩
    | succ k ih =>
      intro xs i e hl hi ρ g p
      have hlt : i < items.length := by
        have := congrArg List.length e
        rw [List.length_drop] at this
        omega
      rw [List.drop_eq_getElem_cons hlt] at e
      subst e
      obtain ⟨ρ1, ρ2, g2, h1, h2, h3⟩ := h i hlt ρ g p
      obtain ⟨ρ', g', h4, h5⟩ := ih (items.drop (i + 1)) (i + 1) rfl (by rw [List.length_cons] at hl; omega) (by omega) ρ2 g2 h3
      refine ⟨ρ', g', h4, ?_⟩
      unfold forL
      rw [h1]
      rcases h2 with h2 | h2
      · simp only [h2]; exact h5
      · simp only [h2]; exact h5
  intro ρ g p
  exact go items.length items 0 rfl rfl (Nat.zero_le _) ρ g p
theorem sFor_run {fi : LF} {b : BF} {f : SF} {items : List D} {ρ : RS} {g g1 : G} (P : Nat → RS → G → Prop) (hi : fi ρ g = .ok items g1) (p : P 0 ρ g1) (h : ∀ i (hi : i < items.length) ρ g, P i ρ g → ∃ ρ1 ρ2 g2, b items[i] ρ = some ρ1 ∧ (f ρ1 g = .nx ρ2 g2 ∨ f ρ1 g = .ct ρ2 g2) ∧ P (i + 1) ρ2 g2) :
    ∃ ρ' g', P items.length ρ' g' ∧ sFor fi b f ρ g = .nx ρ' g' := by
  obtain ⟨ρ', g', h1, h2⟩ := for_run items P h ρ g1 p
  refine ⟨ρ', g', h1, ?_⟩
  unfold sFor
  rw [hi]
  exact h2
theorem upTo_len {lo : Int} {n : Nat} : (upTo lo n).length = n := by
  unfold upTo
  rw [List.length_map, List.length_range]
theorem comp_run {b : BF} {ft : TF} {fe : EF} {ρ : RS} (items : List D) (P : Nat → List D → G → Prop)
    (h : ∀ i (hi : i < items.length) acc g, P i acc g → ∃ ρ1 g1, b items[i] ρ = some ρ1 ∧ ((ft ρ1 g = .ok false g1 ∧ P (i + 1) acc g1) ∨ (ft ρ1 g = .ok true g1 ∧ ∃ d g2, fe ρ1 g1 = .ok d g2 ∧ noTok [d] = true ∧ P (i + 1) (acc ++ [d]) g2))) :
    ∀ g, P 0 [] g → ∃ ds g', P items.length ds g' ∧ compF b ft fe ρ items g = .ok ds g' := by
  have go : ∀ (k : Nat) (xs : List D) (i : Nat), items.drop i = xs → xs.length = k → i ≤ items.length → ∀ acc g, P i acc g → ∃ ds g', P items.length (acc ++ ds) g' ∧ compF b ft fe ρ xs g = .ok ds g' := by
    intro k
    induction k with
    | zero =>
      intro xs i e hl hi acc g p
      have : xs = [] := List.length_eq_zero_iff.mp hl
      subst this
      have : i = items.length := by
        have := congrArg List.length e
        rw [List.length_drop] at this
        simp at this
        omega
      subst this
      exact ⟨[], g, by rw [List.append_nil]; exact p, rfl⟩
    | succ k ih =>
      intro xs i e hl hi acc g p
      have hlt : i < items.length := by
        have := congrArg List.length e
        rw [List.length_drop] at this
        omega
      rw [List.drop_eq_getElem_cons hlt] at e
      subst e
      rw [List.length_cons] at hl
      obtain ⟨ρ1, g1, h1, h2⟩ := h i hlt acc g p
      rcases h2 with ⟨h2, h3⟩ | ⟨h2, d, g2, h3, h4, h5⟩
      · obtain ⟨ds, g', q1, q2⟩ := ih (items.drop (i + 1)) (i + 1) rfl (by omega) (by omega) acc g1 h3
        refine ⟨ds, g', q1, ?_⟩
        simp only [compF, h1, h2]
        exact q2
      · obtain ⟨ds, g', q1, q2⟩ := ih (items.drop (i + 1)) (i + 1) rfl (by omega) (by omega) _ g2 h5
        refine ⟨d :: ds, g', by rw [List.append_assoc] at q1; exact q1, ?_⟩
        simp only [compF, h1, h2, h3, h4, if_true, q2]
        rfl
  intro g p
  obtain ⟨ds, g', h1, h2⟩ := go items.length items 0 rfl rfl (Nat.zero_le _) [] g p
  exact ⟨ds, g', by simpa using h1, h2⟩
theorem oComp_run {vs : List Nat} {fi : LF} {b : BF} {ft : TF} {fe : EF} {ρ : RS} {items : List D} {g g1 : G} (P : Nat → List D → G → Prop) (hi : fi ρ g = .ok items g1) (hl : items.length ≤ LIM) (p : P 0 [] g1)
    (h : ∀ i (hi : i < items.length) acc g, P i acc g → ∃ ρ1 g1, b items[i] (wipeR ρ vs) = some ρ1 ∧ ((ft ρ1 g = .ok false g1 ∧ P (i + 1) acc g1) ∨ (ft ρ1 g = .ok true g1 ∧ ∃ d g2, fe ρ1 g1 = .ok d g2 ∧ noTok [d] = true ∧ P (i + 1) (acc ++ [d]) g2))) :
    ∃ ds g', P items.length ds g' ∧ oComp vs fi b ft fe ρ g = .ok ds g' := by
  obtain ⟨ds, g', h1, h2⟩ := comp_run items P h g1 p
  refine ⟨ds, g', h1, ?_⟩
  show (fi ρ g).bind _ = _
  rw [hi]
  show (if items.length ≤ LIM then _ else _) = _
  rw [if_pos hl]
  exact h2
theorem oComp_map {vs : List Nat} {fi : LF} {b : BF} {ft : TF} {fe : EF} {ρ : RS} {items : List D} {g : G} (vals : List D) (hi : fi ρ g = .ok items g) (hl : items.length ≤ LIM) (hv : vals.length = items.length)
    (h : ∀ i (hi : i < items.length), ∃ ρ1 v, vals[i]? = some v ∧ b items[i] (wipeR ρ vs) = some ρ1 ∧ ft ρ1 g = .ok true g ∧ fe ρ1 g = .ok v g ∧ noTok [v] = true) : oComp vs fi b ft fe ρ g = .ok vals g := by
  obtain ⟨ds, g', ⟨rfl, e⟩, q⟩ := oComp_run (vs := vs) (b := b) (ft := ft) (fe := fe) (fun i acc g' => g' = g ∧ acc = vals.take i) hi hl ⟨rfl, rfl⟩ (fun i hx acc g' ⟨e1, e2⟩ => by
    subst e1 e2
    obtain ⟨ρ1, v, h1, h2, h3, h4, h5⟩ := h i hx
    exact ⟨ρ1, g', h2, .inr ⟨h3, v, g', h4, h5, rfl, by rw [List.take_add_one, h1]; rfl⟩⟩)
  rw [q, e, ← hv, List.take_length]
theorem oComp_none {vs : List Nat} {fi : LF} {b : BF} {ft : TF} {fe : EF} {ρ : RS} {items : List D} {g : G} (hi : fi ρ g = .ok items g) (hl : items.length ≤ LIM)
    (h : ∀ i (hi : i < items.length), ∃ ρ1, b items[i] (wipeR ρ vs) = some ρ1 ∧ ft ρ1 g = .ok false g) : oComp vs fi b ft fe ρ g = .ok [] g := by
  obtain ⟨ds, g', ⟨rfl, rfl⟩, q⟩ := oComp_run (vs := vs) (b := b) (ft := ft) (fe := fe) (fun i acc g' => g' = g ∧ acc = []) hi hl ⟨rfl, rfl⟩ (fun i hx acc g' ⟨e1, e2⟩ => by
    subst e1 e2
    obtain ⟨ρ1, h1, h2⟩ := h i hx
    exact ⟨ρ1, g', h1, .inl ⟨h2, rfl, rfl⟩⟩)
  exact q
abbrev dI (l : List Int) : D := .list (l.map .int)
abbrev dP (p : Int × Int) : D := .tuple [.int p.1, .int p.2]
abbrev dPs (l : List (Int × Int)) : D := .list (l.map dP)
def lay (k : Nat) (d : D) : Prop := d.canLay0 = true ∧ d.depth ≤ k
theorem lay.shp {k : Nat} {d : D} (h : lay k d) (hk : k ≤ 64) : shp d = true := by
  unfold DL.shp SeqAt.shaped
  rw [h.1, Bool.true_and]
  exact decide_eq_true (Nat.le_trans h.2 hk)
theorem lay_int {i : Int} : lay 0 (.int i) := ⟨rfl, Nat.le_refl _⟩
theorem lay_bool {i : Bool} : lay 0 (.bool i) := ⟨rfl, Nat.le_refl _⟩
theorem lay.up {k m : Nat} {d : D} (h : lay k d) (hk : k ≤ m) : lay m d := ⟨h.1, Nat.le_trans h.2 hk⟩
theorem lay_all {k : Nat} : ∀ {xs : List D}, (∀ x ∈ xs, lay k x) → PyData.canLayAll0 xs = true ∧ PyData.depthAll xs ≤ k
  | [], _ => ⟨rfl, Nat.zero_le _⟩
  | x :: xs, h => by
    obtain ⟨h1, h2⟩ := lay_all fun y hy => h y (List.mem_cons_of_mem _ hy)
    obtain ⟨h3, h4⟩ := h x List.mem_cons_self
    refine ⟨?_, ?_⟩
    · rw [PyData.canLayAll0, h1, h3]
      rfl
    · rw [PyData.depthAll]
      exact Nat.max_le.mpr ⟨h4, h2⟩
theorem lay_list {k : Nat} {xs : List D} (h : ∀ x ∈ xs, lay k x) : lay (k + 1) (.list xs) := by
  obtain ⟨h1, h2⟩ := lay_all h
  exact ⟨by rw [PyData.canLay0]; exact h1, by rw [PyData.depth]; omega⟩
theorem lay_tuple {k : Nat} {xs : List D} (h : ∀ x ∈ xs, lay k x) : lay (k + 1) (.tuple xs) := by
  obtain ⟨h1, h2⟩ := lay_all h
  exact ⟨by rw [PyData.canLay0]; exact h1, by rw [PyData.depth]; omega⟩
theorem lay_dI {l : List Int} : lay 1 (dI l) := lay_list fun x hx => by
  obtain ⟨i, _, rfl⟩ := List.mem_map.mp hx
  exact lay_int
theorem lay_dP {p : Int × Int} : lay 1 (dP p) := lay_tuple fun x hx => by
  rcases List.mem_cons.mp hx with rfl | hx
  · exact lay_int
  · rw [List.mem_singleton.mp hx]
    exact lay_int
theorem lay_dPs {l : List (Int × Int)} : lay 2 (dPs l) := lay_list fun x hx => by
  obtain ⟨i, _, rfl⟩ := List.mem_map.mp hx
  exact lay_dP
theorem opNe_dI {a b : List Int} {g : G} : opNe (.list (a.map .int)) (.list (b.map .int)) g = .ok (.bool (!decide (a = b))) g := by
  rw [opNe_shp (lay_dI.shp (by decide)) (lay_dI.shp (by decide)), show PyData.eqv (.list (a.map .int)) (.list (b.map .int)) = decide (a = b) from PySem.W.Datum.eqv (α := List Int) a b]
theorem opEq_dI {a b : List Int} {g : G} : opEq (.list (a.map .int)) (.list (b.map .int)) g = .ok (.bool (decide (a = b))) g := by
  rw [opEq_shp (lay_dI.shp (by decide)) (lay_dI.shp (by decide)), show PyData.eqv (.list (a.map .int)) (.list (b.map .int)) = decide (a = b) from PySem.W.Datum.eqv (α := List Int) a b]
theorem opNe_dP {a b c d : Int} {g : G} : opNe (.tuple [.int a, .int b]) (.tuple [.int c, .int d]) g = .ok (.bool (!decide ((a, b) = (c, d)))) g := by
  rw [opNe_shp ((lay_dP (p := (a, b))).shp (by decide)) ((lay_dP (p := (c, d))).shp (by decide)), show PyData.eqv (.tuple [.int a, .int b]) (.tuple [.int c, .int d]) = decide ((a, b) = (c, d)) from PySem.W.Datum.eqv (α := Int × Int) (a, b) (c, d)]
theorem opEq_dP {a b c d : Int} {g : G} : opEq (.tuple [.int a, .int b]) (.tuple [.int c, .int d]) g = .ok (.bool (decide ((a, b) = (c, d)))) g := by
  rw [opEq_shp ((lay_dP (p := (a, b))).shp (by decide)) ((lay_dP (p := (c, d))).shp (by decide)), show PyData.eqv (.tuple [.int a, .int b]) (.tuple [.int c, .int d]) = decide ((a, b) = (c, d)) from PySem.W.Datum.eqv (α := Int × Int) (a, b) (c, d)]
theorem opNe_dPs {a b : List (Int × Int)} {g : G} : opNe (.list (a.map dP)) (.list (b.map dP)) g = .ok (.bool (!decide (a = b))) g := by
  rw [opNe_shp (lay_dPs.shp (by decide)) (lay_dPs.shp (by decide)), show PyData.eqv (.list (a.map dP)) (.list (b.map dP)) = decide (a = b) from PySem.W.Datum.eqv (α := List (Int × Int)) a b]
theorem sIx_lo {n : Nat} {i : Int} (h0 : 0 ≤ i) : HT.sIx n 0 (some i) = min i.toNat n := by
  have := HT.sIx_nat n 0 i.toNat
  rw [← this]
  congr 2
  omega
theorem cutD_to {xs : List D} {i : Int} (h : 0 ≤ i) : cutD xs none (some i) = xs.take i.toNat := by
  unfold cutD
  have e : HT.sIx xs.length xs.length (some i) = min i.toNat xs.length := by
    have := HT.sIx_nat xs.length xs.length i.toNat
    rw [← this]
    congr 2
    omega
  rw [HT.sIx_none, e, List.drop_zero, Nat.sub_zero]
  by_cases hl : i.toNat ≤ xs.length
  · rw [Nat.min_eq_left hl]
  · rw [Nat.min_eq_right (by omega), List.take_length, List.take_of_length_le (by omega)]
theorem cutD_from {xs : List D} {i : Int} (h : 0 ≤ i) : cutD xs (some i) none = xs.drop i.toNat := by
  unfold cutD
  rw [sIx_lo h, HT.sIx_none]
  by_cases hl : i.toNat ≤ xs.length
  · rw [Nat.min_eq_left hl, List.take_of_length_le (by rw [List.length_drop]; omega)]
  · rw [Nat.min_eq_right (by omega), List.drop_length, List.drop_of_length_le (by omega), List.take_nil]
theorem cutD_neg {xs : List D} {i : Int} (h : i < 0) : cutD xs none (some i) = xs.take (i + xs.length).toNat := by
  unfold cutD
  have e : HT.sIx xs.length xs.length (some i) = (i + xs.length).toNat := by
    show (if i < 0 then _ else _) = _
    rw [if_pos h]
  rw [HT.sIx_none, e, List.drop_zero, Nat.sub_zero]
end DL
namespace K19
open PySem
open PySem.Spec
open PyProof.Rows
open L2
open DL
def topS (i : Nat) : Stmt := PySem.Challenge.pw_formsoftwo_k19_whole_sums_of_roots_of_on.main.body.getD i (.Pass ⟨0, 0, 0, 0⟩)
abbrev s_factors : Stmt := topS 6
abbrev nm_factors : List Str := ["number", "left", "found", "prime", "many"]
theorem sc_factors : FnScope nm_factors ["number"] (defScope s_factors) := ⟨rfl, rfl, rfl, by decide +kernel, rfl, by decide +kernel, by decide +kernel⟩
abbrev s_is_prime : Stmt := topS 7
abbrev nm_is_prime : List Str := ["number"]
theorem sc_is_prime : FnScope nm_is_prime ["number"] (defScope s_is_prime) := ⟨rfl, rfl, rfl, by decide +kernel, rfl, by decide +kernel, by decide +kernel⟩
abbrev s_jacobi : Stmt := topS 8
abbrev nm_jacobi : List Str := ["above", "below", "found"]
theorem sc_jacobi : FnScope nm_jacobi ["above", "below"] (defScope s_jacobi) := ⟨rfl, rfl, rfl, by decide +kernel, rfl, by decide +kernel, by decide +kernel⟩
abbrev s_check : Stmt := topS 10
abbrev nm_check : List Str := ["prime"]
theorem sc_check : FnScope nm_check ["prime"] (defScope s_check) := ⟨rfl, rfl, rfl, by decide +kernel, rfl, by decide +kernel, by decide +kernel⟩
abbrev s_settled : Stmt := topS 11
abbrev nm_settled : List Str := ["row", "number"]
theorem sc_settled : FnScope nm_settled ["row"] (defScope s_settled) := ⟨rfl, rfl, rfl, by decide +kernel, rfl, by decide +kernel, by decide +kernel⟩
abbrev s_root_power : Stmt := topS 12
abbrev nm_root_power : List Str := ["prime", "many", "row"]
theorem sc_root_power : FnScope nm_root_power ["prime", "many"] (defScope s_root_power) := ⟨rfl, rfl, rfl, by decide +kernel, rfl, by decide +kernel, by decide +kernel⟩
abbrev s_whole : Stmt := topS 13
abbrev nm_whole : List Str := ["prime", "number"]
theorem sc_whole : FnScope nm_whole ["prime", "number"] (defScope s_whole) := ⟨rfl, rfl, rfl, by decide +kernel, rfl, by decide +kernel, by decide +kernel⟩
abbrev s_plus : Stmt := topS 14
abbrev nm_plus : List Str := ["one", "other", "k"]
theorem sc_plus : FnScope nm_plus ["one", "other"] (defScope s_plus) := ⟨rfl, rfl, rfl, by decide +kernel, rfl, by decide +kernel, by decide +kernel⟩
abbrev s_times : Stmt := topS 15
abbrev nm_times : List Str := ["one", "other", "prime", "row", "a", "b"]
theorem sc_times : FnScope nm_times ["one", "other"] (defScope s_times) := ⟨rfl, rfl, rfl, by decide +kernel, rfl, by decide +kernel, by decide +kernel⟩
abbrev s_power : Stmt := topS 16
abbrev nm_power : List Str := ["one", "many", "found"]
theorem sc_power : FnScope nm_power ["one", "many"] (defScope s_power) := ⟨rfl, rfl, rfl, by decide +kernel, rfl, by decide +kernel, by decide +kernel⟩
abbrev s_moved : Stmt := topS 17
abbrev nm_moved : List Str := ["one", "number", "prime", "row", "k"]
theorem sc_moved : FnScope nm_moved ["one", "number"] (defScope s_moved) := ⟨rfl, rfl, rfl, by decide +kernel, rfl, by decide +kernel, by decide +kernel⟩
abbrev s_sum_of_signs : Stmt := topS 18
abbrev nm_sum_of_signs : List Str := ["prime", "number", "row", "k"]
theorem sc_sum_of_signs : FnScope nm_sum_of_signs ["prime", "number"] (defScope s_sum_of_signs) := ⟨rfl, rfl, rfl, by decide +kernel, rfl, by decide +kernel, by decide +kernel⟩
abbrev s_sum_of_squares : Stmt := topS 19
abbrev nm_sum_of_squares : List Str := ["prime", "number", "row", "k"]
theorem sc_sum_of_squares : FnScope nm_sum_of_squares ["prime", "number"] (defScope s_sum_of_squares) := ⟨rfl, rfl, rfl, by decide +kernel, rfl, by decide +kernel, by decide +kernel⟩
abbrev s_starred : Stmt := topS 20
abbrev nm_starred : List Str := ["prime"]
theorem sc_starred : FnScope nm_starred ["prime"] (defScope s_starred) := ⟨rfl, rfl, rfl, by decide +kernel, rfl, by decide +kernel, by decide +kernel⟩
abbrev s_trace : Stmt := topS 21
abbrev nm_trace : List Str := ["one", "prime"]
theorem sc_trace : FnScope nm_trace ["one"] (defScope s_trace) := ⟨rfl, rfl, rfl, by decide +kernel, rfl, by decide +kernel, by decide +kernel⟩
abbrev s_is_whole_row : Stmt := topS 22
abbrev nm_is_whole_row : List Str := ["one", "number"]
theorem sc_is_whole_row : FnScope nm_is_whole_row ["one"] (defScope s_is_whole_row) := ⟨rfl, rfl, rfl, by decide +kernel, rfl, by decide +kernel, by decide +kernel⟩
abbrev s_rest_by : Stmt := topS 23
abbrev nm_rest_by : List Str := ["one", "number", "told"]
theorem sc_rest_by : FnScope nm_rest_by ["one", "number"] (defScope s_rest_by) := ⟨rfl, rfl, rfl, by decide +kernel, rfl, by decide +kernel, by decide +kernel⟩
abbrev s_many_sums : Stmt := topS 24
abbrev nm_many_sums : List Str := ["prime", "rows", "value", "found", "k"]
theorem sc_many_sums : FnScope nm_many_sums ["prime", "rows", "value"] (defScope s_many_sums) := ⟨rfl, rfl, rfl, by decide +kernel, rfl, by decide +kernel, by decide +kernel⟩
abbrev s_power_of : Stmt := topS 25
abbrev nm_power_of : List Str := ["one", "many", "found", "turn"]
theorem sc_power_of : FnScope nm_power_of ["one", "many"] (defScope s_power_of) := ⟨rfl, rfl, rfl, by decide +kernel, rfl, by decide +kernel, by decide +kernel⟩
abbrev s_turned_sign : Stmt := topS 26
abbrev nm_turned_sign : List Str := ["prime", "other", "told", "same", "against", "number"]
theorem sc_turned_sign : FnScope nm_turned_sign ["prime", "other"] (defScope s_turned_sign) := ⟨rfl, rfl, rfl, by decide +kernel, rfl, by decide +kernel, by decide +kernel⟩
abbrev s__law_state : Stmt := topS 28
abbrev nm__law_state : List Str := ["script", "cells", "cell"]
theorem sc__law_state : FnScope nm__law_state ["script"] (defScope s__law_state) := ⟨rfl, rfl, rfl, by decide +kernel, rfl, by decide +kernel, by decide +kernel⟩
abbrev s__law_take : Stmt := topS 29
abbrev nm__law_take : List Str := ["state", "most", "cells", "at", "cell", "mixed"]
theorem sc__law_take : FnScope nm__law_take ["state", "most"] (defScope s__law_take) := ⟨rfl, rfl, rfl, by decide +kernel, rfl, by decide +kernel, by decide +kernel⟩
abbrev s__law_pick : Stmt := topS 30
abbrev nm__law_pick : List Str := ["state", "row"]
theorem sc__law_pick : FnScope nm__law_pick ["state", "row"] (defScope s__law_pick) := ⟨rfl, rfl, rfl, by decide +kernel, rfl, by decide +kernel, by decide +kernel⟩
abbrev s__law_factors : Stmt := topS 34
abbrev nm__law_factors : List Str := ["number", "left", "found", "prime", "many", "turn"]
theorem sc__law_factors : FnScope nm__law_factors ["number"] (defScope s__law_factors) := ⟨rfl, rfl, rfl, by decide +kernel, rfl, by decide +kernel, by decide +kernel⟩
abbrev s__law_jacobi : Stmt := topS 35
abbrev nm__law_jacobi : List Str := ["above", "below", "found", "prime", "many", "rest", "told", "turn", "k"]
theorem sc__law_jacobi : FnScope nm__law_jacobi ["above", "below"] (defScope s__law_jacobi) := ⟨rfl, rfl, rfl, by decide +kernel, rfl, by decide +kernel, by decide +kernel⟩
abbrev s__law_settled : Stmt := topS 37
abbrev nm__law_settled : List Str := ["row", "n"]
theorem sc__law_settled : FnScope nm__law_settled ["row"] (defScope s__law_settled) := ⟨rfl, rfl, rfl, by decide +kernel, rfl, by decide +kernel, by decide +kernel⟩
abbrev s__law_times : Stmt := topS 38
abbrev nm__law_times : List Str := ["one", "other", "prime", "row", "a", "b"]
theorem sc__law_times : FnScope nm__law_times ["one", "other"] (defScope s__law_times) := ⟨rfl, rfl, rfl, by decide +kernel, rfl, by decide +kernel, by decide +kernel⟩
abbrev s__law_word : Stmt := topS 39
abbrev nm__law_word : List Str := ["value", "e"]
theorem sc__law_word : FnScope nm__law_word ["value"] (defScope s__law_word) := ⟨rfl, rfl, rfl, by decide +kernel, rfl, by decide +kernel, by decide +kernel⟩
abbrev s_law : Stmt := topS 40
abbrev nm_law : List Str := ["script", "state", "p", "q", "k", "wide", "one", "other", "many", "now", "turn", "a", "row", "b", "total", "signs", "squares", "gauss", "star", "told", "rows", "value", "sums", "ahead", "x", "each", "j", "n"]
theorem sc_law : FnScope nm_law ["script"] (defScope s_law) := ⟨rfl, rfl, rfl, by decide +kernel, rfl, by decide +kernel, by decide +kernel⟩
abbrev si_Great : Stmt := match topS 2 with
  | .ClassDef (body := b) .. => b.getD 0 (.Pass ⟨0, 0, 0, 0⟩)
  | _ => .Pass ⟨0, 0, 0, 0⟩
abbrev si_Misstep : Stmt := match topS 3 with
  | .ClassDef (body := b) .. => b.getD 0 (.Pass ⟨0, 0, 0, 0⟩)
  | _ => .Pass ⟨0, 0, 0, 0⟩
abbrev v_MOST_NUMBER : D := .int 1000000000000
structure Top (P : Program) (K : PySem.W.Frag) (mg : Str → Option Value) where
  d_factors : Df K mg "factors" s_factors ["number"]
  d_is_prime : Df K mg "is_prime" s_is_prime ["number"]
  d_jacobi : Df K mg "jacobi" s_jacobi ["above", "below"]
  d_check : Df K mg "check" s_check ["prime"]
  d_settled : Df K mg "settled" s_settled ["row"]
  d_root_power : Df K mg "root_power" s_root_power ["prime", "many"]
  d_whole : Df K mg "whole" s_whole ["prime", "number"]
  d_plus : Df K mg "plus" s_plus ["one", "other"]
  d_times : Df K mg "times" s_times ["one", "other"]
  d_power : Df K mg "power" s_power ["one", "many"]
  d_moved : Df K mg "moved" s_moved ["one", "number"]
  d_sum_of_signs : Df K mg "sum_of_signs" s_sum_of_signs ["prime", "number"]
  d_sum_of_squares : Df K mg "sum_of_squares" s_sum_of_squares ["prime", "number"]
  d_starred : Df K mg "starred" s_starred ["prime"]
  d_trace : Df K mg "trace" s_trace ["one"]
  d_is_whole_row : Df K mg "is_whole_row" s_is_whole_row ["one"]
  d_rest_by : Df K mg "rest_by" s_rest_by ["one", "number"]
  d_many_sums : Df K mg "many_sums" s_many_sums ["prime", "rows", "value"]
  d_power_of : Df K mg "power_of" s_power_of ["one", "many"]
  d_turned_sign : Df K mg "turned_sign" s_turned_sign ["prime", "other"]
  d__law_state : Df K mg "_law_state" s__law_state ["script"]
  d__law_take : Df K mg "_law_take" s__law_take ["state", "most"]
  d__law_pick : Df K mg "_law_pick" s__law_pick ["state", "row"]
  d__law_factors : Df K mg "_law_factors" s__law_factors ["number"]
  d__law_jacobi : Df K mg "_law_jacobi" s__law_jacobi ["above", "below"]
  d__law_settled : Df K mg "_law_settled" s__law_settled ["row"]
  d__law_times : Df K mg "_law_times" s__law_times ["one", "other"]
  d__law_word : Df K mg "_law_word" s__law_word ["value"]
  d_law : Df K mg "law" s_law ["script"]
  b_abs : mg "abs" = none
  b_all : mg "all" = none
  b_int : mg "int" = none
  b_len : mg "len" = none
  b_list : mg "list" = none
  b_max : mg "max" = none
  b_range : mg "range" = none
  b_sum : mg "sum" = none
  b_tuple : mg "tuple" = none
  g_MOST_NUMBER : GlobD K mg "MOST_NUMBER" v_MOST_NUMBER
  b_super : mg "super" = none
  e_Great : Ex K mg P "Great" "limit" "beyond the bound of " si_Great
  e_Misstep : Ex K mg P "Misstep" "word" "this may not be done: " si_Misstep
  x_Great_Great : PySem.W.exmOne K (.ref e_Great.C) (.ref e_Great.C) = some true
  x_Great_Misstep : PySem.W.exmOne K (.ref e_Great.C) (.ref e_Misstep.C) = some false
  x_Misstep_Great : PySem.W.exmOne K (.ref e_Misstep.C) (.ref e_Great.C) = some false
  x_Misstep_Misstep : PySem.W.exmOne K (.ref e_Misstep.C) (.ref e_Misstep.C) = some true
variable {P : Program} {w : World} {K : PySem.W.Frag} {mg : Str → Option Value} {base : Heap}
def clOf (T : Top P K mg) (x : Str) : Option Addr := if x = "Great" then some T.e_Great.C else if x = "Misstep" then some T.e_Misstep.C else none
theorem cl_Great (T : Top P K mg) : clOf T "Great" = some T.e_Great.C := by
  unfold clOf
  rw [if_pos rfl]
theorem hm_Great (T : Top P K mg) : ∀ (m : Str) (C : Addr), clOf T m = some C → PySem.W.exmOne K (.ref C) (.ref T.e_Great.C) = some (decide (m = "Great")) := by
  intro m C h
  unfold clOf at h
  split at h
  · rename_i e
    cases h
    rw [e, T.x_Great_Great]
    rfl
  split at h
  · rename_i e
    cases h
    rw [e, T.x_Misstep_Great]
    rfl
  cases h
theorem in_Great (T : Top P K mg) : FnOk P w K mg base (L2.CX P w) 1 T.e_Great.k.f T.e_Great.k.fd ["self", "limit"] (spI K T.e_Great.C "limit" "beyond the bound of ") :=
  init_ok T.e_Great.k ⟨_, _, _, _, _, _, _, _, _, _, _, _, _, rfl, rfl⟩ ⟨rfl, rfl, rfl, rfl, rfl, rfl, rfl, by decide +kernel, fun y h => (by decide +kernel : ∀ x ∈ (defScope si_Great).names, x.2 = .free → x.1 = "__class__") _ (PySem.mem_of_lookup h) rfl⟩ (by decide) rfl rfl rfl T.b_super
theorem cl_Misstep (T : Top P K mg) : clOf T "Misstep" = some T.e_Misstep.C := by
  unfold clOf
  rw [if_neg (show ¬ (("Misstep" : Str) = "Great") by decide +kernel)]
  rw [if_pos rfl]
theorem hm_Misstep (T : Top P K mg) : ∀ (m : Str) (C : Addr), clOf T m = some C → PySem.W.exmOne K (.ref C) (.ref T.e_Misstep.C) = some (decide (m = "Misstep")) := by
  intro m C h
  unfold clOf at h
  split at h
  · rename_i e
    cases h
    rw [e, T.x_Great_Misstep]
    rfl
  split at h
  · rename_i e
    cases h
    rw [e, T.x_Misstep_Misstep]
    rfl
  cases h
theorem in_Misstep (T : Top P K mg) : FnOk P w K mg base (L2.CX P w) 1 T.e_Misstep.k.f T.e_Misstep.k.fd ["self", "word"] (spI K T.e_Misstep.C "word" "this may not be done: ") :=
  init_ok T.e_Misstep.k ⟨_, _, _, _, _, _, _, _, _, _, _, _, _, rfl, rfl⟩ ⟨rfl, rfl, rfl, rfl, rfl, rfl, rfl, by decide +kernel, fun y h => (by decide +kernel : ∀ x ∈ (defScope si_Misstep).names, x.2 = .free → x.1 = "__class__") _ (PySem.mem_of_lookup h) rfl⟩ (by decide) rfl rfl rfl T.b_super
theorem ok__law_take (T : Top P K mg) : FnD P w K mg base (clOf T) 1 T.d__law_take.f T.d__law_take.fd ["state", "most"] m_take := by
  refine Fun.okX T.d__law_take.F sc__law_take (fun vs H Q E ⟨sa, sb, F, ds, g, h1, h2, h3, h4⟩ => ?_) (fun cdv A outer s H vs Q E hr ⟨sa, sb, F, ds, g, h1, h2, h3, h4⟩ => ?_)
  · obtain ⟨most, rfl, _⟩ := m_take_args (ds := ds) (g := g) (fun e => by rw [e] at h4; exact h4)
    rw [h3.length]
    rfl
  · obtain ⟨most, rfl, hm⟩ := m_take_args (ds := ds) (g := g) (fun e => by rw [e] at h4; exact h4)
    rw [hm] at h4
    cases rep_take h3
    refine ⟨_, pss_cons (ps_if (pt_cmpR op_lt (pv 1) pe_int (nomark _)) (pss_one (ps_ret pe_int)) pss_nil)
      (pss_cons (ps_set (i := 2) sc__law_take.nd rfl (.inl rfl) (pe_ix ix_list (pv 0) pe_int (fun _ _ => rfl)))
      (pss_cons (ps_set (i := 3) sc__law_take.nd rfl (.inl rfl) (pe_op op_mod (pe_callTy call_int1 rfl T.b_int (by decide +kernel) (pa_cons (pe_ix ix_list (pv 0) pe_int (fun _ _ => rfl)) pa_nil)) (pe_callB call_len rfl T.b_len (by decide +kernel) (pa_cons (pv 2) pa_nil))))
      (pss_cons (ps_set (i := 4) sc__law_take.nd rfl (.inl rfl) (pe_ix ix_list (pv 2) (pv 3) (fun _ _ => rfl)))
      (pss_cons (ps_if (pt_cmpR op_ge (pv 4) pe_int (nomark _))
        (pss_cons (ps_asg (pe_op op_fdivW (pv 4) (pv 1)) (pg_sub (pv 2) (pv 3) set_list))
        (pss_one (ps_ret (pe_op op_mod (pe_callTy call_int1 rfl T.b_int (by decide +kernel) (pa_cons (pv 4) pa_nil)) (pv 1))))) pss_nil)
      (pss_cons (ps_asg (pe_op op_add (pe_ix ix_list (pv 0) pe_int (fun _ _ => rfl)) pe_int) (pg_sub (pv 0) pe_int set_list))
      (pss_cons (ps_set (i := 5) sc__law_take.nd rfl (.inl rfl) (pe_op op_mod (pe_callTy call_int1 rfl T.b_int (by decide +kernel) (pa_cons (pe_op op_add (pe_op op_mul (pv 4) pe_int) (pe_op op_mul (pe_ix ix_list (pv 0) pe_int (fun _ _ => rfl)) pe_int)) pa_nil)) pe_int))
      (pss_cons (ps_set (i := 5) sc__law_take.nd rfl (.inl rfl) (pe_op op_mod (pe_callTy call_int1 rfl T.b_int (by decide +kernel) (pa_cons (pe_op op_add (pe_op op_mul (pv 5) pe_int) (pe_op op_mul (pe_ix ix_list (pv 0) pe_int (fun _ _ => rfl)) pe_int)) pa_nil)) pe_int))
      (pss_one (ps_ret (pe_op op_mod (pe_callTy call_int1 rfl T.b_int (by decide +kernel) (pa_cons (pe_op op_fdiv (pv 5) pe_int) pa_nil)) (pv 1))))))))))), ?_⟩
    exact take_run rfl h1 h2 h4 rfl
theorem ok__law_state (T : Top P K mg) : FnOk P w K mg base (L2.CX P w) 1 T.d__law_state.f T.d__law_state.fd ["script"] (spState K) := by
  refine Fun.okX T.d__law_state.F sc__law_state (fun vs H Q E ⟨a, ns, e, _⟩ => by rw [e]; rfl) (fun cdv A outer s H vs Q E hr ⟨a, ns, ev, hS, hl, h4⟩ => ?_)
  subst ev
  refine ⟨_, pss_cons (ps_setLc (i := 1) (own := [("cell", 2)]) rfl sc__law_state.nd rfl rfl (sw_true rfl rfl rfl (by decide +kernel)) (pi_list (pe_slice sl_list (pv 0) po_none (po_some pe_int))) (blkOk_by (N := nm__law_state) (sc := defScope s__law_state) (by decide +kernel)) (fun _ _ _ _ _ => pg_name (i := 2) sc__law_state.nd rfl (.inl rfl)) (fun _ _ _ _ _ => pts_nil) (fun _ _ _ _ _ => pe_callB call_abs rfl T.b_abs (by decide +kernel) (pa_cons (pv 2) pa_nil)))
    (pss_cons (ps_if (pt_cmpR op_eq (pe_callB call_len rfl T.b_len (by decide +kernel) (pa_cons (pv 1) pa_nil)) pe_int (nomark _))
      (pss_one (ps_set (i := 1) sc__law_state.nd rfl (.inl rfl) (pe_lst (pa_cons pe_int pa_nil)))) pss_nil)
    (pss_one (ps_ret (pe_lst (pa_cons pe_int (pa_cons (pv 1) pa_nil)))))), ?_⟩
  exact state_run rfl hS hl h4 rfl
def m__law_take := m_take
def S_jacobi_1 : SF := (sTup [0, 2] (vOf (aCons (eBin opMod (eV 0) (eV 1)) (aCons (eC (.int 1)) aNil))))
def S_jacobi_4 : SF := (sSet 0 (eBin opDiv (eV 0) (eC (.int 2))))
def S_jacobi_6 : SF := (sSet 2 (eBin opSub (eC (.int 0)) (eV 2)))
def S_jacobi_5 : SF := (sIf (tVal (eBin (opIn false) (eBin opMod (eV 1) (eC (.int 8))) (eTup (aCons (eC (.int 3)) (aCons (eC (.int 5)) aNil)))))
 S_jacobi_6
 sNil)
def W_jacobi_3 : TF := (tVal (eBin opEq (eBin opMod (eV 0) (eC (.int 2))) (eC (.int 0))))
def B_jacobi_3 : SF := (sSeq S_jacobi_4
 S_jacobi_5)
def S_jacobi_3 : SF := (sWhile 1000000000000000000000000000000 W_jacobi_3
 B_jacobi_3)
def S_jacobi_7 : SF := (sTup [0, 1] (vOf (aCons (eV 1) (aCons (eV 0) aNil))))
def S_jacobi_9 : SF := (sSet 2 (eBin opSub (eC (.int 0)) (eV 2)))
def S_jacobi_8 : SF := (sIf (tAndF (tVal (eBin opEq (eBin opMod (eV 0) (eC (.int 4))) (eC (.int 3)))) (tVal (eBin opEq (eBin opMod (eV 1) (eC (.int 4))) (eC (.int 3)))))
 S_jacobi_9
 sNil)
def S_jacobi_10 : SF := (sSet 0 (eBin opMod (eV 0) (eV 1)))
def W_jacobi_2 : TF := (tVal (eBin opNe (eV 0) (eC (.int 0))))
def B_jacobi_2 : SF := (sSeq S_jacobi_3
 (sSeq S_jacobi_7
 (sSeq S_jacobi_8
 S_jacobi_10)))
def S_jacobi_2 : SF := (sWhile 1000000000000000000000000000000 W_jacobi_2
 B_jacobi_2)
def S_jacobi_11 : SF := (sRet (eIf (tVal (eBin opEq (eV 1) (eC (.int 1)))) (eV 2) (eC (.int 0))))
def sem_jacobi : SF := (sSeq S_jacobi_1
 (sSeq S_jacobi_2
 S_jacobi_11))
def m_jacobi : List D → G → Out D := mOf 3 2 sem_jacobi
theorem ok_jacobi (T : Top P K mg) : FnD P w K mg base (clOf T) 1 T.d_jacobi.f T.d_jacobi.fd ["above", "below"] m_jacobi :=
  fn_m T.d_jacobi sc_jacobi rfl rfl fun cdv A outer s H E sa sb F0 H0 hr =>
 (dss_cons (ds_tpar (ps_par (i := 0) (j := 2) rfl sc_jacobi.nd rfl rfl (by decide) rfl rfl (dv_of (da_cons (d_mod (d_var (pv 0)) (d_var (pv 1))) (da_cons d_int da_nil))) (by rfl)))
 (dss_cons (ds_while (n := 1000000000000000000000000000000) (passes_of rfl) (dcT (d_ne rfl (hu65 hr) (d_var (pv 0)) d_int))
 (dss_cons (ds_while (n := 1000000000000000000000000000000) (passes_of rfl) (dcT (d_eq rfl (hu65 hr) (d_mod (d_var (pv 0)) d_int) d_int))
 (dss_cons (ds_set (ps_set (i := 0) sc_jacobi.nd rfl (.inl rfl) (d_div (d_var (pv 0)) d_int)))
 (dss_one (ds_if (dcT (d_in rfl (hu65 hr) (d_mod (d_var (pv 1)) d_int) (d_tup (da_cons d_int (da_cons d_int da_nil)))))
 (dss_one (ds_set (ps_set (i := 2) sc_jacobi.nd rfl (.inl rfl) (d_sub d_int (d_var (pv 2))))))
 dss_nil))))
 (dss_cons (ds_tpar (ps_par (i := 0) (j := 1) rfl sc_jacobi.nd rfl rfl (by decide) rfl rfl (dv_of (da_cons (d_var (pv 1)) (da_cons (d_var (pv 0)) da_nil))) (by rfl)))
 (dss_cons (ds_if (dt_w (dw_and (dcT (d_eq rfl (hu65 hr) (d_mod (d_var (pv 0)) d_int) d_int)) (dw_and1 (dcT (d_eq rfl (hu65 hr) (d_mod (d_var (pv 1)) d_int) d_int)))))
 (dss_one (ds_set (ps_set (i := 2) sc_jacobi.nd rfl (.inl rfl) (d_sub d_int (d_var (pv 2))))))
 dss_nil)
 (dss_one (ds_set (ps_set (i := 0) sc_jacobi.nd rfl (.inl rfl) (d_mod (d_var (pv 0)) (d_var (pv 1))))))))))
 (dss_one (ds_ret (d_if (dcT (d_eq rfl (hu65 hr) (d_var (pv 1)) d_int)) (d_var (pv 2)) d_int)))))
def C_settled_1 : OF' := oComp [1] (iSeq (eSl (eV 0) oNone (oSome (eNeg (eC (.int 1)))))) (bName 1) tYesF (eBin opSub (eV 1) (eBin opIx (eV 0) (eNeg (eC (.int 1)))))
def S_settled_1 : SF := (sRet (eCall bTuple (aCons (eOf C_settled_1) aNil)))
def sem_settled : SF := S_settled_1
def m_settled : List D → G → Out D := mOf 2 1 sem_settled
theorem ok_settled (T : Top P K mg) : FnD P w K mg base (clOf T) 1 T.d_settled.f T.d_settled.fd ["row"] m_settled :=
  fn_m T.d_settled sc_settled rfl rfl fun cdv A outer s H E sa sb F0 H0 hr =>
 (dss_one (ds_ret (d_callT call_tuple_of kl_tuple rfl T.b_tuple (by decide +kernel) (da_cons (d_ofO (o_lc (own := [("number", 1)]) rfl sc_settled.nd (di_seq rfl (d_sl rfl (d_var (pv 0)) do_none (do_some (d_neg d_int)))) (blkOk_by (N := nm_settled) (sc := defScope s_settled) (by decide +kernel)) (by decide) (fun _ _ _ _ _ => (dg_name (pg_name (i := 1) sc_settled.nd rfl (.inl rfl)))) (fun _ _ _ _ _ => dts_nil) (fun _ _ _ _ _ => (d_sub (d_var (pv 1)) (d_ix rfl (d_var (pv 0)) (d_neg d_int)))))) da_nil))))
def S_whole_1 : SF := (sRet (eBin opAdd (eTup (aCons (eV 1) aNil)) (eBin opMulT (eTup (aCons (eC (.int 0)) aNil)) (eBin opSub (eV 0) (eC (.int 2))))))
def sem_whole : SF := S_whole_1
def m_whole : List D → G → Out D := mOf 2 2 sem_whole
theorem ok_whole (T : Top P K mg) : FnD P w K mg base (clOf T) 1 T.d_whole.f T.d_whole.fd ["prime", "number"] m_whole :=
  fn_m T.d_whole sc_whole rfl rfl fun cdv A outer s H E sa sb F0 H0 hr =>
 (dss_one (ds_ret (d_add rfl (d_tup (da_cons (d_var (pv 1)) da_nil)) (d_mulT rfl (d_tup (da_cons d_int da_nil)) (d_sub (d_var (pv 0)) d_int)))))
def C_plus_1 : OF' := oComp [2] (iRan1 (aCons (eCall bLen (aCons (eV 0) aNil)) aNil)) (bName 2) tYesF (eBin opAdd (eBin opIx (eV 0) (eV 2)) (eBin opIx (eV 1) (eV 2)))
def S_plus_1 : SF := (sRet (eCall bTuple (aCons (eOf C_plus_1) aNil)))
def sem_plus : SF := S_plus_1
def m_plus : List D → G → Out D := mOf 3 2 sem_plus
theorem ok_plus (T : Top P K mg) : FnD P w K mg base (clOf T) 1 T.d_plus.f T.d_plus.fd ["one", "other"] m_plus :=
  fn_m T.d_plus sc_plus rfl rfl fun cdv A outer s H E sa sb F0 H0 hr =>
 (dss_one (ds_ret (d_callT call_tuple_of kl_tuple rfl T.b_tuple (by decide +kernel) (da_cons (d_ofO (o_lc (own := [("k", 2)]) rfl sc_plus.nd (di_ran1 (by rfl) T.b_range (da_cons (d_callB call_len kl_len rfl T.b_len (by decide +kernel) (da_cons (d_var (pv 0)) da_nil)) da_nil)) (blkOk_by (N := nm_plus) (sc := defScope s_plus) (by decide +kernel)) (by decide) (fun _ _ _ _ _ => (dg_name (pg_name (i := 2) sc_plus.nd rfl (.inl rfl)))) (fun _ _ _ _ _ => dts_nil) (fun _ _ _ _ _ => (d_add rfl (d_ix rfl (d_var (pv 0)) (d_var (pv 2))) (d_ix rfl (d_var (pv 1)) (d_var (pv 2))))))) da_nil))))
def S_starred_1 : SF := (sRet (eIf (tVal (eBin opEq (eBin opMod (eV 0) (eC (.int 4))) (eC (.int 1)))) (eV 0) (eBin opSub (eC (.int 0)) (eV 0))))
def sem_starred : SF := S_starred_1
def m_starred : List D → G → Out D := mOf 1 1 sem_starred
theorem ok_starred (T : Top P K mg) : FnD P w K mg base (clOf T) 1 T.d_starred.f T.d_starred.fd ["prime"] m_starred :=
  fn_m T.d_starred sc_starred rfl rfl fun cdv A outer s H E sa sb F0 H0 hr =>
 (dss_one (ds_ret (d_if (dcT (d_eq rfl (hu65 hr) (d_mod (d_var (pv 0)) d_int) d_int)) (d_var (pv 0)) (d_sub d_int (d_var (pv 0))))))
def S_trace_1 : SF := (sSet 1 (eBin opAdd (eCall bLen (aCons (eV 0) aNil)) (eC (.int 1))))
def S_trace_2 : SF := (sRet (eBin opSub (eBin opMul (eBin opIx (eV 0) (eC (.int 0))) (eBin opSub (eV 1) (eC (.int 1)))) (eCall bSumA (aCons (eSl (eV 0) (oSome (eC (.int 1))) oNone) aNil))))
def sem_trace : SF := (sSeq S_trace_1
 S_trace_2)
def m_trace : List D → G → Out D := mOf 2 1 sem_trace
theorem ok_trace (T : Top P K mg) : FnD P w K mg base (clOf T) 1 T.d_trace.f T.d_trace.fd ["one"] m_trace :=
  fn_m T.d_trace sc_trace rfl rfl fun cdv A outer s H E sa sb F0 H0 hr =>
 (dss_cons (ds_set (ps_set (i := 1) sc_trace.nd rfl (.inl rfl) (d_add rfl (d_callB call_len kl_len rfl T.b_len (by decide +kernel) (da_cons (d_var (pv 0)) da_nil)) d_int)))
 (dss_one (ds_ret (d_sub (d_mul (d_ix rfl (d_var (pv 0)) d_int) (d_sub (d_var (pv 1)) d_int)) (d_callB (cr_sumA rfl) kl_sumA rfl T.b_sum (by decide +kernel) (da_cons (d_sl rfl (d_var (pv 0)) (do_some d_int) do_none) da_nil))))))
def C_is_whole_row_1 : OF' := oComp [1] (iSeq (eSl (eV 0) (oSome (eC (.int 1))) oNone)) (bName 1) tYesF (eBin opEq (eV 1) (eC (.int 0)))
def S_is_whole_row_1 : SF := (sRet (eCall bAll (aCons (eOf C_is_whole_row_1) aNil)))
def sem_is_whole_row : SF := S_is_whole_row_1
def m_is_whole_row : List D → G → Out D := mOf 2 1 sem_is_whole_row
theorem ok_is_whole_row (T : Top P K mg) : FnD P w K mg base (clOf T) 1 T.d_is_whole_row.f T.d_is_whole_row.fd ["one"] m_is_whole_row :=
  fn_m T.d_is_whole_row sc_is_whole_row rfl rfl fun cdv A outer s H E sa sb F0 H0 hr =>
 (dss_one (ds_ret (d_callB (cr_all rfl) kl_all rfl T.b_all (by decide +kernel) (da_cons (d_ofO (o_lc (own := [("number", 1)]) rfl sc_is_whole_row.nd (di_seq rfl (d_sl rfl (d_var (pv 0)) (do_some d_int) do_none)) (blkOk_by (N := nm_is_whole_row) (sc := defScope s_is_whole_row) (by decide +kernel)) (by decide) (fun _ _ _ _ _ => (dg_name (pg_name (i := 1) sc_is_whole_row.nd rfl (.inl rfl)))) (fun _ _ _ _ _ => dts_nil) (fun _ _ _ _ _ => (dcE (d_eq rfl (hu65 hr) (d_var (pv 1)) d_int))))) da_nil))))
def C_rest_by_1 : OF' := oComp [2] (iSeq (eV 0)) (bName 2) tYesF (eBin opMod (eV 2) (eV 1))
def S_rest_by_1 : SF := (sRet (eCall bTuple (aCons (eOf C_rest_by_1) aNil)))
def sem_rest_by : SF := S_rest_by_1
def m_rest_by : List D → G → Out D := mOf 3 2 sem_rest_by
theorem ok_rest_by (T : Top P K mg) : FnD P w K mg base (clOf T) 1 T.d_rest_by.f T.d_rest_by.fd ["one", "number"] m_rest_by :=
  fn_m T.d_rest_by sc_rest_by rfl rfl fun cdv A outer s H E sa sb F0 H0 hr =>
 (dss_one (ds_ret (d_callT call_tuple_of kl_tuple rfl T.b_tuple (by decide +kernel) (da_cons (d_ofO (o_lc (own := [("told", 2)]) rfl sc_rest_by.nd (di_seq rfl (d_var (pv 0))) (blkOk_by (N := nm_rest_by) (sc := defScope s_rest_by) (by decide +kernel)) (by decide) (fun _ _ _ _ _ => (dg_name (pg_name (i := 2) sc_rest_by.nd rfl (.inl rfl)))) (fun _ _ _ _ _ => dts_nil) (fun _ _ _ _ _ => (d_mod (d_var (pv 2)) (d_var (pv 1)))))) da_nil))))
def S_power_of_1 : SF := (sSet 2 (eC (.int 1)))
def S_power_of_3 : SF := (sSet 2 (eBin opMul (eV 2) (eV 0)))
def B_power_of_2 : SF := S_power_of_3
def S_power_of_2 : SF := (sFor (iRan1 (aCons (eV 1) aNil)) (bName 3)
 B_power_of_2)
def S_power_of_4 : SF := (sRet (eV 2))
def sem_power_of : SF := (sSeq S_power_of_1
 (sSeq S_power_of_2
 S_power_of_4))
def m_power_of : List D → G → Out D := mOf 4 2 sem_power_of
theorem ok_power_of (T : Top P K mg) : FnD P w K mg base (clOf T) 1 T.d_power_of.f T.d_power_of.fd ["one", "many"] m_power_of :=
  fn_m T.d_power_of sc_power_of rfl rfl fun cdv A outer s H E sa sb F0 H0 hr =>
 (dss_cons (ds_set (ps_set (i := 2) sc_power_of.nd rfl (.inl rfl) d_int))
 (dss_cons (ds_for (passes_of rfl) rfl (di_ran1 (by rfl) T.b_range (da_cons (d_var (pv 1)) da_nil)) (dg_name (pg_name (i := 3) sc_power_of.nd rfl (.inl rfl)))
 (dss_one (ds_set (ps_set (i := 2) sc_power_of.nd rfl (.inl rfl) (d_mul (d_var (pv 2)) (d_var (pv 0)))))))
 (dss_one (ds_ret (d_var (pv 2))))))
def S__law_factors_1 : SF := (sTup [1, 2] (vCons (eV 0) (vOwn (oLst aNil) aNil)))
def S__law_factors_3 : SF := (sSet 4 (eC (.int 0)))
def S__law_factors_6 : SF := (sTup [1, 4] (vOf (aCons (eBin opDiv (eV 1) (eV 3)) (aCons (eBin opAdd (eV 4) (eC (.int 1))) aNil))))
def S__law_factors_5 : SF := (sIf (tVal (eBin opEq (eBin opMod (eCall bInt (aCons (eV 1) aNil)) (eV 3)) (eC (.int 0))))
 S__law_factors_6
 sNil)
def B__law_factors_4 : SF := S__law_factors_5
def S__law_factors_4 : SF := (sFor (iRan1 (aCons (eC (.int 60)) aNil)) (bName 5)
 B__law_factors_4)
def S__law_factors_8 : SF := (sApp 2 (eTup (aCons (eV 3) (aCons (eV 4) aNil))))
def S__law_factors_7 : SF := (sIf (tVal (eBin opGt (eV 4) (eC (.int 0))))
 S__law_factors_8
 sNil)
def S__law_factors_9 : SF := (sIf (tVal (eBin opGt (eBin opMul (eV 3) (eV 3)) (eV 1)))
 sBrk
 sNil)
def B__law_factors_2 : SF := (sSeq S__law_factors_3
 (sSeq S__law_factors_4
 (sSeq S__law_factors_7
 S__law_factors_9)))
def S__law_factors_2 : SF := (sFor (iRan2 (aCons (eC (.int 2)) (aCons (eC (.int 2000)) aNil))) (bName 3)
 B__law_factors_2)
def S__law_factors_11 : SF := (sRet (eBin opAdd (eV 2) (eIf (tVal (eBin opGt (eV 1) (eC (.int 1)))) (eLst (aCons (eTup (aCons (eV 1) (aCons (eC (.int 1)) aNil))) aNil)) (eLst aNil))))
def sem__law_factors : SF := (sSeq S__law_factors_1
 (sSeq S__law_factors_2
 (sFrz 2 S__law_factors_11)))
def m__law_factors : List D → G → Out D := mOf 6 1 sem__law_factors
theorem ok__law_factors (T : Top P K mg) : FnD P w K mg base (clOf T) 1 T.d__law_factors.f T.d__law_factors.fd ["number"] m__law_factors :=
  fn_m T.d__law_factors sc__law_factors rfl rfl fun cdv A outer s H E sa sb F0 H0 hr =>
 (dss_cons (ds_tpar (ps_par (i := 1) (j := 2) rfl sc__law_factors.nd rfl rfl (by decide) rfl rfl (dv_cons (d_var (pv 0)) (dv_own (o_lst da_nil) da_nil)) (by rfl)))
 (dss_cons (ds_for (passes_of rfl) rfl (di_ran2 (by rfl) T.b_range (da_cons d_int (da_cons d_int da_nil))) (dg_name (pg_name (i := 3) sc__law_factors.nd rfl (.inl rfl)))
 (dss_cons (ds_set (ps_set (i := 4) sc__law_factors.nd rfl (.inl rfl) d_int))
 (dss_cons (ds_for (passes_of rfl) rfl (di_ran1 (by rfl) T.b_range (da_cons d_int da_nil)) (dg_name (pg_name (i := 5) sc__law_factors.nd rfl (.inl rfl)))
 (dss_one (ds_if (dcT (d_eq rfl (hu65 hr) (d_mod (d_callT call_int1 kl_int rfl T.b_int (by decide +kernel) (da_cons (d_var (pv 1)) da_nil)) (d_var (pv 3))) d_int))
 (dss_one (ds_tpar (ps_par (i := 1) (j := 4) rfl sc__law_factors.nd rfl rfl (by decide) rfl rfl (dv_of (da_cons (d_div (d_var (pv 1)) (d_var (pv 3))) (da_cons (d_add rfl (d_var (pv 4)) d_int) da_nil))) (by rfl))))
 dss_nil)))
 (dss_cons (ds_if (dcT (d_gt (d_var (pv 4)) d_int))
 (dss_one (ds_app (i := 2) (ps_expr (pe_bm PySem.F.plainAttrs_list PySem.F.slot_list_append PySem.F.type_list_append mt_append (pv 2) (pa_cons (d_tup (da_cons (d_var (pv 3)) (da_cons (d_var (pv 4)) da_nil))) pa_nil)))))
 dss_nil)
 (dss_one (ds_if (dcT (d_gt (d_mul (d_var (pv 3)) (d_var (pv 3))) (d_var (pv 1))))
 (dss_one ds_break)
 dss_nil))))))
 (dss_frz (i := 2) (dss_one (ds_ret (d_add rfl (d_var (pv 2)) (d_if (dcT (d_gt (d_var (pv 1)) d_int)) (d_lst (da_cons (d_tup (da_cons (d_var (pv 1)) (da_cons d_int da_nil))) da_nil)) (d_lst da_nil))))))))
def C__law_settled_1 : OF' := oComp [1] (iSeq (eSl (eV 0) oNone (oSome (eNeg (eC (.int 1)))))) (bName 1) tYesF (eBin opSub (eV 1) (eBin opIx (eV 0) (eNeg (eC (.int 1)))))
def S__law_settled_1 : SF := (sRet (eCall bTuple (aCons (eOf C__law_settled_1) aNil)))
def sem__law_settled : SF := S__law_settled_1
def m__law_settled : List D → G → Out D := mOf 2 1 sem__law_settled
theorem ok__law_settled (T : Top P K mg) : FnD P w K mg base (clOf T) 1 T.d__law_settled.f T.d__law_settled.fd ["row"] m__law_settled :=
  fn_m T.d__law_settled sc__law_settled rfl rfl fun cdv A outer s H E sa sb F0 H0 hr =>
 (dss_one (ds_ret (d_callT call_tuple_of kl_tuple rfl T.b_tuple (by decide +kernel) (da_cons (d_ofO (o_lc (own := [("n", 1)]) rfl sc__law_settled.nd (di_seq rfl (d_sl rfl (d_var (pv 0)) do_none (do_some (d_neg d_int)))) (blkOk_by (N := nm__law_settled) (sc := defScope s__law_settled) (by decide +kernel)) (by decide) (fun _ _ _ _ _ => (dg_name (pg_name (i := 1) sc__law_settled.nd rfl (.inl rfl)))) (fun _ _ _ _ _ => dts_nil) (fun _ _ _ _ _ => (d_sub (d_var (pv 1)) (d_ix rfl (d_var (pv 0)) (d_neg d_int)))))) da_nil))))
def S_root_power_1 : SF := (sSetO 2 (oRep (eLst (aCons (eC (.int 0)) aNil)) (eV 0)))
def S_root_power_2 : SF := (sSetIx 2 (eC (.int 1)) (eBin opMod (eV 1) (eV 0)))
def S_root_power_3 : SF := (sRet (eCall m_settled (aCons (eV 2) aNil)))
def sem_root_power : SF := (sSeq S_root_power_1
 (sSeq S_root_power_2
 (sFrz 2 S_root_power_3)))
def m_root_power : List D → G → Out D := mOf 3 2 sem_root_power
theorem ok_root_power (T : Top P K mg) : FnD P w K mg base (clOf T) 2 T.d_root_power.f T.d_root_power.fd ["prime", "many"] m_root_power :=
  fn_m T.d_root_power sc_root_power rfl rfl fun cdv A outer s H E sa sb F0 H0 hr =>
 (dss_cons (ds_setO (ps_set (i := 2) sc_root_power.nd rfl (.inl rfl) (o_rep (d_lst (da_cons d_int da_nil)) (d_var (pv 0)))))
 (dss_cons (ds_setIx (i := 2) (ps_asg d_int (pg_sub (pv 2) (d_mod (d_var (pv 1)) (d_var (pv 0))) set_list)))
 (dss_frz (i := 2) (dss_one (ds_ret (d_call rfl (ok_settled T) (hr.mono (by decide)) rfl T.d_settled.g T.d_settled.F.kp T.d_settled.b (takes_of rfl rfl rfl rfl) (da_cons (d_var (pv 2)) da_nil)))))))
def S_times_1 : SF := (sSet 2 (eBin opAdd (eCall bLen (aCons (eV 0) aNil)) (eC (.int 1))))
def S_times_2 : SF := (sSetO 3 (oRep (eLst (aCons (eC (.int 0)) aNil)) (eV 2)))
def S_times_5 : SF := (sAugIx 3 (fun i j => i + j) (eBin opMod (eBin opAdd (eV 4) (eV 5)) (eV 2)) (eBin opMul (eBin opIx (eV 0) (eV 4)) (eBin opIx (eV 1) (eV 5))))
def B_times_4 : SF := S_times_5
def S_times_4 : SF := (sFor (iRan1 (aCons (eCall bLen (aCons (eV 1) aNil)) aNil)) (bName 5)
 B_times_4)
def B_times_3 : SF := S_times_4
def S_times_3 : SF := (sFor (iRan1 (aCons (eCall bLen (aCons (eV 0) aNil)) aNil)) (bName 4)
 B_times_3)
def S_times_6 : SF := (sRet (eCall m_settled (aCons (eV 3) aNil)))
def sem_times : SF := (sSeq S_times_1
 (sSeq S_times_2
 (sSeq S_times_3
 (sFrz 3 S_times_6))))
def m_times : List D → G → Out D := mOf 6 2 sem_times
theorem ok_times (T : Top P K mg) : FnD P w K mg base (clOf T) 2 T.d_times.f T.d_times.fd ["one", "other"] m_times :=
  fn_m T.d_times sc_times rfl rfl fun cdv A outer s H E sa sb F0 H0 hr =>
 (dss_cons (ds_set (ps_set (i := 2) sc_times.nd rfl (.inl rfl) (d_add rfl (d_callB call_len kl_len rfl T.b_len (by decide +kernel) (da_cons (d_var (pv 0)) da_nil)) d_int)))
 (dss_cons (ds_setO (ps_set (i := 3) sc_times.nd rfl (.inl rfl) (o_rep (d_lst (da_cons d_int da_nil)) (d_var (pv 2)))))
 (dss_cons (ds_for (passes_of rfl) rfl (di_ran1 (by rfl) T.b_range (da_cons (d_callB call_len kl_len rfl T.b_len (by decide +kernel) (da_cons (d_var (pv 0)) da_nil)) da_nil)) (dg_name (pg_name (i := 4) sc_times.nd rfl (.inl rfl)))
 (dss_one (ds_for (passes_of rfl) rfl (di_ran1 (by rfl) T.b_range (da_cons (d_callB call_len kl_len rfl T.b_len (by decide +kernel) (da_cons (d_var (pv 1)) da_nil)) da_nil)) (dg_name (pg_name (i := 5) sc_times.nd rfl (.inl rfl)))
 (dss_one (ds_augIx (i := 3) rfl (ps_augS (pv 3) (d_mod (d_add rfl (d_var (pv 4)) (d_var (pv 5))) (d_var (pv 2))) get_list (d_mul (d_ix rfl (d_var (pv 0)) (d_var (pv 4))) (d_ix rfl (d_var (pv 1)) (d_var (pv 5)))) ip_add set_list))))))
 (dss_frz (i := 3) (dss_one (ds_ret (d_call rfl (ok_settled T) (hr.mono (by decide)) rfl T.d_settled.g T.d_settled.F.kp T.d_settled.b (takes_of rfl rfl rfl rfl) (da_cons (d_var (pv 3)) da_nil))))))))
def S_moved_1 : SF := (sSet 2 (eBin opAdd (eCall bLen (aCons (eV 0) aNil)) (eC (.int 1))))
def S_moved_2 : SF := (sSetO 3 (oRep (eLst (aCons (eC (.int 0)) aNil)) (eV 2)))
def S_moved_4 : SF := (sAugIx 3 (fun i j => i + j) (eBin opMod (eBin opMul (eV 4) (eV 1)) (eV 2)) (eBin opIx (eV 0) (eV 4)))
def B_moved_3 : SF := S_moved_4
def S_moved_3 : SF := (sFor (iRan1 (aCons (eCall bLen (aCons (eV 0) aNil)) aNil)) (bName 4)
 B_moved_3)
def S_moved_5 : SF := (sRet (eCall m_settled (aCons (eV 3) aNil)))
def sem_moved : SF := (sSeq S_moved_1
 (sSeq S_moved_2
 (sSeq S_moved_3
 (sFrz 3 S_moved_5))))
def m_moved : List D → G → Out D := mOf 5 2 sem_moved
theorem ok_moved (T : Top P K mg) : FnD P w K mg base (clOf T) 2 T.d_moved.f T.d_moved.fd ["one", "number"] m_moved :=
  fn_m T.d_moved sc_moved rfl rfl fun cdv A outer s H E sa sb F0 H0 hr =>
 (dss_cons (ds_set (ps_set (i := 2) sc_moved.nd rfl (.inl rfl) (d_add rfl (d_callB call_len kl_len rfl T.b_len (by decide +kernel) (da_cons (d_var (pv 0)) da_nil)) d_int)))
 (dss_cons (ds_setO (ps_set (i := 3) sc_moved.nd rfl (.inl rfl) (o_rep (d_lst (da_cons d_int da_nil)) (d_var (pv 2)))))
 (dss_cons (ds_for (passes_of rfl) rfl (di_ran1 (by rfl) T.b_range (da_cons (d_callB call_len kl_len rfl T.b_len (by decide +kernel) (da_cons (d_var (pv 0)) da_nil)) da_nil)) (dg_name (pg_name (i := 4) sc_moved.nd rfl (.inl rfl)))
 (dss_one (ds_augIx (i := 3) rfl (ps_augS (pv 3) (d_mod (d_mul (d_var (pv 4)) (d_var (pv 1))) (d_var (pv 2))) get_list (d_ix rfl (d_var (pv 0)) (d_var (pv 4))) ip_add set_list))))
 (dss_frz (i := 3) (dss_one (ds_ret (d_call rfl (ok_settled T) (hr.mono (by decide)) rfl T.d_settled.g T.d_settled.F.kp T.d_settled.b (takes_of rfl rfl rfl rfl) (da_cons (d_var (pv 3)) da_nil))))))))
def S__law_pick_1 : SF := (sRet (eBin opIx (eV 1) (eCall m_take (aCons (eV 0) (aCons (eCall bLen (aCons (eV 1) aNil)) aNil)))))
def sem__law_pick : SF := S__law_pick_1
def m__law_pick : List D → G → Out D := mOf 2 2 sem__law_pick
theorem ok__law_pick (T : Top P K mg) : FnD P w K mg base (clOf T) 2 T.d__law_pick.f T.d__law_pick.fd ["state", "row"] m__law_pick :=
  fn_m T.d__law_pick sc__law_pick rfl rfl fun cdv A outer s H E sa sb F0 H0 hr =>
 (dss_one (ds_ret (d_ix rfl (d_var (pv 1)) (d_call rfl (ok__law_take T) (hr.mono (by decide)) rfl T.d__law_take.g T.d__law_take.F.kp T.d__law_take.b (takes_of rfl rfl rfl rfl) (da_cons (d_var (pv 0)) (da_cons (d_callB call_len kl_len rfl T.b_len (by decide +kernel) (da_cons (d_var (pv 1)) da_nil)) da_nil))))))
def S__law_jacobi_1 : SF := (sSet 2 (eC (.int 1)))
def S__law_jacobi_3 : SF := (sSet 5 (eBin opMod (eCall bInt (aCons (eV 0) aNil)) (eV 3)))
def C__law_jacobi_1 : OF' := oComp [8] (iRan2 (aCons (eC (.int 1)) (aCons (eV 3) aNil))) (bName 8) (tVal (eBin opEq (eBin opMod (eCall bInt (aCons (eBin opMul (eV 8) (eV 8)) aNil)) (eV 3)) (eV 5))) (eV 8)
def S__law_jacobi_4 : SF := (sSet 6 (eIf (tVal (eBin opEq (eV 5) (eC (.int 0)))) (eC (.int 0)) (eIf (tVal (eBin opGt (eCall bLen (aCons (eOf C__law_jacobi_1) aNil)) (eC (.int 0)))) (eC (.int 1)) (eNeg (eC (.int 1))))))
def S__law_jacobi_6 : SF := (sSet 2 (eBin opMul (eV 2) (eV 6)))
def B__law_jacobi_5 : SF := S__law_jacobi_6
def S__law_jacobi_5 : SF := (sFor (iRan1 (aCons (eV 4) aNil)) (bName 7)
 B__law_jacobi_5)
def B__law_jacobi_2 : SF := (sSeq S__law_jacobi_3
 (sSeq S__law_jacobi_4
 S__law_jacobi_5))
def S__law_jacobi_2 : SF := (sFor (iSeq (eCall m__law_factors (aCons (eV 1) aNil))) (bTup 2 (bCons (bName 3) (bCons (bName 4) bNil)))
 B__law_jacobi_2)
def S__law_jacobi_7 : SF := (sRet (eV 2))
def sem__law_jacobi : SF := (sSeq S__law_jacobi_1
 (sSeq S__law_jacobi_2
 S__law_jacobi_7))
def m__law_jacobi : List D → G → Out D := mOf 9 2 sem__law_jacobi
theorem ok__law_jacobi (T : Top P K mg) : FnD P w K mg base (clOf T) 2 T.d__law_jacobi.f T.d__law_jacobi.fd ["above", "below"] m__law_jacobi :=
  fn_m T.d__law_jacobi sc__law_jacobi rfl rfl fun cdv A outer s H E sa sb F0 H0 hr =>
 (dss_cons (ds_set (ps_set (i := 2) sc__law_jacobi.nd rfl (.inl rfl) d_int))
 (dss_cons (ds_for (passes_of rfl) rfl (di_seq rfl (d_call rfl (ok__law_factors T) (hr.mono (by decide)) rfl T.d__law_factors.g T.d__law_factors.F.kp T.d__law_factors.b (takes_of rfl rfl rfl rfl) (da_cons (d_var (pv 1)) da_nil))) (dg_tup rfl rfl (dgs_cons (dg_name (pg_name (i := 3) sc__law_jacobi.nd rfl (.inr rfl))) (dgs_cons (dg_name (pg_name (i := 4) sc__law_jacobi.nd rfl (.inl rfl))) dgs_nil)))
 (dss_cons (ds_set (ps_set (i := 5) sc__law_jacobi.nd rfl (.inr rfl) (d_mod (d_callT call_int1 kl_int rfl T.b_int (by decide +kernel) (da_cons (d_var (pv 0)) da_nil)) (d_var (pv 3)))))
 (dss_cons (ds_set (ps_set (i := 6) sc__law_jacobi.nd rfl (.inl rfl) (d_if (dcT (d_eq rfl (hu65 hr) (d_var (pv 5)) d_int)) d_int (d_if (dcT (d_gt (d_callB call_len kl_len rfl T.b_len (by decide +kernel) (da_cons (d_ofO (o_lc (own := [("k", 8)]) rfl sc__law_jacobi.nd (di_ran2 (by rfl) T.b_range (da_cons d_int (da_cons (d_var (pv 3)) da_nil))) (blkOk_by (N := nm__law_jacobi) (sc := defScope s__law_jacobi) (by decide +kernel)) (by decide) (fun _ _ _ _ _ => (dg_name (pg_name (i := 8) sc__law_jacobi.nd rfl (.inl rfl)))) (fun _ _ _ _ _ => (dts_one (dcT (d_eq rfl (hu65 hr) (d_mod (d_callT call_int1 kl_int rfl T.b_int (by decide +kernel) (da_cons (d_mul (d_var (pv 8)) (d_var (pv 8))) da_nil)) (d_var (pv 3))) (d_var (pv 5)))))) (fun _ _ _ _ _ => (d_var (pv 8))))) da_nil)) d_int)) d_int (d_neg d_int)))))
 (dss_one (ds_for (passes_of rfl) rfl (di_ran1 (by rfl) T.b_range (da_cons (d_var (pv 4)) da_nil)) (dg_name (pg_name (i := 7) sc__law_jacobi.nd rfl (.inl rfl)))
 (dss_one (ds_set (ps_set (i := 2) sc__law_jacobi.nd rfl (.inl rfl) (d_mul (d_var (pv 2)) (d_var (pv 6)))))))))))
 (dss_one (ds_ret (d_var (pv 2))))))
def S__law_times_1 : SF := (sSet 2 (eBin opAdd (eCall bLen (aCons (eV 0) aNil)) (eC (.int 1))))
def S__law_times_2 : SF := (sSetO 3 (oRep (eLst (aCons (eC (.int 0)) aNil)) (eV 2)))
def S__law_times_5 : SF := (sSetIx 3 (eBin opAdd (eIxA 3 (eBin opMod (eCall bInt (aCons (eBin opAdd (eV 4) (eV 5)) aNil)) (eV 2))) (eBin opMul (eBin opIx (eV 0) (eV 4)) (eBin opIx (eV 1) (eV 5)))) (eBin opMod (eCall bInt (aCons (eBin opAdd (eV 4) (eV 5)) aNil)) (eV 2)))
def B__law_times_4 : SF := S__law_times_5
def S__law_times_4 : SF := (sFor (iRan1 (aCons (eCall bLen (aCons (eV 1) aNil)) aNil)) (bName 5)
 B__law_times_4)
def B__law_times_3 : SF := S__law_times_4
def S__law_times_3 : SF := (sFor (iRan1 (aCons (eCall bLen (aCons (eV 0) aNil)) aNil)) (bName 4)
 B__law_times_3)
def S__law_times_6 : SF := (sRet (eCall m__law_settled (aCons (eV 3) aNil)))
def sem__law_times : SF := (sSeq S__law_times_1
 (sSeq S__law_times_2
 (sSeq S__law_times_3
 (sFrz 3 S__law_times_6))))
def m__law_times : List D → G → Out D := mOf 6 2 sem__law_times
theorem ok__law_times (T : Top P K mg) : FnD P w K mg base (clOf T) 2 T.d__law_times.f T.d__law_times.fd ["one", "other"] m__law_times :=
  fn_m T.d__law_times sc__law_times rfl rfl fun cdv A outer s H E sa sb F0 H0 hr =>
 (dss_cons (ds_set (ps_set (i := 2) sc__law_times.nd rfl (.inl rfl) (d_add rfl (d_callB call_len kl_len rfl T.b_len (by decide +kernel) (da_cons (d_var (pv 0)) da_nil)) d_int)))
 (dss_cons (ds_setO (ps_set (i := 3) sc__law_times.nd rfl (.inl rfl) (o_rep (d_lst (da_cons d_int da_nil)) (d_var (pv 2)))))
 (dss_cons (ds_for (passes_of rfl) rfl (di_ran1 (by rfl) T.b_range (da_cons (d_callB call_len kl_len rfl T.b_len (by decide +kernel) (da_cons (d_var (pv 0)) da_nil)) da_nil)) (dg_name (pg_name (i := 4) sc__law_times.nd rfl (.inl rfl)))
 (dss_one (ds_for (passes_of rfl) rfl (di_ran1 (by rfl) T.b_range (da_cons (d_callB call_len kl_len rfl T.b_len (by decide +kernel) (da_cons (d_var (pv 1)) da_nil)) da_nil)) (dg_name (pg_name (i := 5) sc__law_times.nd rfl (.inl rfl)))
 (dss_one (ds_setIx (i := 3) (ps_asg (d_add rfl (d_ixA rfl (pe_ix ix_seq (pv 3) (d_mod (d_callT call_int1 kl_int rfl T.b_int (by decide +kernel) (da_cons (d_add rfl (d_var (pv 4)) (d_var (pv 5))) da_nil)) (d_var (pv 2))) (fun _ _ => rfl))) (d_mul (d_ix rfl (d_var (pv 0)) (d_var (pv 4))) (d_ix rfl (d_var (pv 1)) (d_var (pv 5))))) (pg_sub (pv 3) (d_mod (d_callT call_int1 kl_int rfl T.b_int (by decide +kernel) (da_cons (d_add rfl (d_var (pv 4)) (d_var (pv 5))) da_nil)) (d_var (pv 2))) set_list)))))))
 (dss_frz (i := 3) (dss_one (ds_ret (d_call rfl (ok__law_settled T) (hr.mono (by decide)) rfl T.d__law_settled.g T.d__law_settled.F.kp T.d__law_settled.b (takes_of rfl rfl rfl rfl) (da_cons (d_var (pv 3)) da_nil))))))))
def S_factors_1 : SF := (sTup [1, 2, 3] (vCons (eCall bAbs (aCons (eV 0) aNil)) (vOwn (oLst aNil) (aCons (eC (.int 2)) aNil))))
def S_factors_3 : SF := (sRaise "Great" "limit" (eC (.str "number")))
def S_factors_2 : SF := (sIf (tVal (eBin opGt (eV 1) (eC v_MOST_NUMBER)))
 S_factors_3
 sNil)
def S_factors_5 : SF := (sSet 4 (eC (.int 0)))
def S_factors_7 : SF := (sTup [1, 4] (vOf (aCons (eBin opDiv (eV 1) (eV 3)) (aCons (eBin opAdd (eV 4) (eC (.int 1))) aNil))))
def W_factors_6 : TF := (tVal (eBin opEq (eBin opMod (eV 1) (eV 3)) (eC (.int 0))))
def B_factors_6 : SF := S_factors_7
def S_factors_6 : SF := (sWhile 1000000000000000000000000000000 W_factors_6
 B_factors_6)
def S_factors_9 : SF := (sApp 2 (eTup (aCons (eV 3) (aCons (eV 4) aNil))))
def S_factors_8 : SF := (sIf (tVal (eBin opGt (eV 4) (eC (.int 0))))
 S_factors_9
 sNil)
def S_factors_10 : SF := (sAug 3 (fun i j => i + j) (eIf (tVal (eBin opEq (eV 3) (eC (.int 2)))) (eC (.int 1)) (eC (.int 2))))
def W_factors_4 : TF := (tVal (eBin opLe (eBin opMul (eV 3) (eV 3)) (eV 1)))
def B_factors_4 : SF := (sSeq S_factors_5
 (sSeq S_factors_6
 (sSeq S_factors_8
 S_factors_10)))
def S_factors_4 : SF := (sWhile 1000000000000000000000000000000 W_factors_4
 B_factors_4)
def S_factors_12 : SF := (sApp 2 (eTup (aCons (eV 1) (aCons (eC (.int 1)) aNil))))
def S_factors_11 : SF := (sIf (tVal (eBin opGt (eV 1) (eC (.int 1))))
 S_factors_12
 sNil)
def S_factors_13 : SF := (sRet (eV 2))
def sem_factors : SF := (sSeq S_factors_1
 (sSeq S_factors_2
 (sSeq S_factors_4
 (sSeq S_factors_11
 (sFrz 2 S_factors_13)))))
def m_factors : List D → G → Out D := mOf 5 1 sem_factors
theorem ok_factors (T : Top P K mg) : FnD P w K mg base (clOf T) 3 T.d_factors.f T.d_factors.fd ["number"] m_factors :=
  fn_m T.d_factors sc_factors rfl rfl fun cdv A outer s H E sa sb F0 H0 hr =>
 (dss_cons (ds_tpar3 (ps_par3 (i := 1) (j := 2) (l := 3) rfl sc_factors.nd rfl rfl rfl (by decide) (by decide) (by decide) rfl rfl rfl (dv_cons (d_callB call_abs kl_abs rfl T.b_abs (by decide +kernel) (da_cons (d_var (pv 0)) da_nil)) (dv_own (o_lst da_nil) (da_cons d_int da_nil))) (by rfl)))
 (dss_cons (ds_if (dcT (d_gt (d_var (pv 1)) (d_glob rfl rfl T.g_MOST_NUMBER)))
 (dss_one (ds_raise rfl T.e_Great (in_Great T) (by decide) (cl_Great T) rfl (hr.mono (by decide)) (takes_of rfl rfl rfl rfl) rfl d_str))
 dss_nil)
 (dss_cons (ds_while (n := 1000000000000000000000000000000) (passes_of rfl) (dcT (d_le (d_mul (d_var (pv 3)) (d_var (pv 3))) (d_var (pv 1))))
 (dss_cons (ds_set (ps_set (i := 4) sc_factors.nd rfl (.inl rfl) d_int))
 (dss_cons (ds_while (n := 1000000000000000000000000000000) (passes_of rfl) (dcT (d_eq rfl (hu65 hr) (d_mod (d_var (pv 1)) (d_var (pv 3))) d_int))
 (dss_one (ds_tpar (ps_par (i := 1) (j := 4) rfl sc_factors.nd rfl rfl (by decide) rfl rfl (dv_of (da_cons (d_div (d_var (pv 1)) (d_var (pv 3))) (da_cons (d_add rfl (d_var (pv 4)) d_int) da_nil))) (by rfl)))))
 (dss_cons (ds_if (dcT (d_gt (d_var (pv 4)) d_int))
 (dss_one (ds_app (i := 2) (ps_expr (pe_bm PySem.F.plainAttrs_list PySem.F.slot_list_append PySem.F.type_list_append mt_append (pv 2) (pa_cons (d_tup (da_cons (d_var (pv 3)) (da_cons (d_var (pv 4)) da_nil))) pa_nil)))))
 dss_nil)
 (dss_one (ds_aug (ps_aug (i := 3) sc_factors.nd rfl (.inl rfl) (d_if (dcT (d_eq rfl (hu65 hr) (d_var (pv 3)) d_int)) d_int d_int) ip_add)))))))
 (dss_cons (ds_if (dcT (d_gt (d_var (pv 1)) d_int))
 (dss_one (ds_app (i := 2) (ps_expr (pe_bm PySem.F.plainAttrs_list PySem.F.slot_list_append PySem.F.type_list_append mt_append (pv 2) (pa_cons (d_tup (da_cons (d_var (pv 1)) (da_cons d_int da_nil))) pa_nil)))))
 dss_nil)
 (dss_frz (i := 2) (dss_one (ds_ret (d_var (pv 2)))))))))
def S_power_1 : SF := (sSet 2 (eCall m_whole (aCons (eBin opAdd (eCall bLen (aCons (eV 0) aNil)) (eC (.int 1))) (aCons (eC (.int 1)) aNil))))
def S_power_4 : SF := (sSet 2 (eCall m_times (aCons (eV 2) (aCons (eV 0) aNil))))
def S_power_3 : SF := (sIf (tVal (eBin opEq (eBin opMod (eV 1) (eC (.int 2))) (eC (.int 1))))
 S_power_4
 sNil)
def S_power_5 : SF := (sTup [0, 1] (vOf (aCons (eCall m_times (aCons (eV 0) (aCons (eV 0) aNil))) (aCons (eBin opDiv (eV 1) (eC (.int 2))) aNil))))
def W_power_2 : TF := (tVal (eBin opGt (eV 1) (eC (.int 0))))
def B_power_2 : SF := (sSeq S_power_3
 S_power_5)
def S_power_2 : SF := (sWhile 1000000000000000000000000000000 W_power_2
 B_power_2)
def S_power_6 : SF := (sRet (eV 2))
def sem_power : SF := (sSeq S_power_1
 (sSeq S_power_2
 S_power_6))
def m_power : List D → G → Out D := mOf 3 2 sem_power
theorem ok_power (T : Top P K mg) : FnD P w K mg base (clOf T) 3 T.d_power.f T.d_power.fd ["one", "many"] m_power :=
  fn_m T.d_power sc_power rfl rfl fun cdv A outer s H E sa sb F0 H0 hr =>
 (dss_cons (ds_set (ps_set (i := 2) sc_power.nd rfl (.inl rfl) (d_call rfl (ok_whole T) (hr.mono (by decide)) rfl T.d_whole.g T.d_whole.F.kp T.d_whole.b (takes_of rfl rfl rfl rfl) (da_cons (d_add rfl (d_callB call_len kl_len rfl T.b_len (by decide +kernel) (da_cons (d_var (pv 0)) da_nil)) d_int) (da_cons d_int da_nil)))))
 (dss_cons (ds_while (n := 1000000000000000000000000000000) (passes_of rfl) (dcT (d_gt (d_var (pv 1)) d_int))
 (dss_cons (ds_if (dcT (d_eq rfl (hu65 hr) (d_mod (d_var (pv 1)) d_int) d_int))
 (dss_one (ds_set (ps_set (i := 2) sc_power.nd rfl (.inl rfl) (d_call rfl (ok_times T) (hr.mono (by decide)) rfl T.d_times.g T.d_times.F.kp T.d_times.b (takes_of rfl rfl rfl rfl) (da_cons (d_var (pv 2)) (da_cons (d_var (pv 0)) da_nil))))))
 dss_nil)
 (dss_one (ds_tpar (ps_par (i := 0) (j := 1) rfl sc_power.nd rfl rfl (by decide) rfl rfl (dv_of (da_cons (d_call rfl (ok_times T) (hr.mono (by decide)) rfl T.d_times.g T.d_times.F.kp T.d_times.b (takes_of rfl rfl rfl rfl) (da_cons (d_var (pv 0)) (da_cons (d_var (pv 0)) da_nil))) (da_cons (d_div (d_var (pv 1)) d_int) da_nil))) (by rfl))))))
 (dss_one (ds_ret (d_var (pv 2))))))
def S_is_prime_1 : SF := (sRet (eAnd (eBin opGt (eV 0) (eC (.int 1))) (eBin opEq (eCall m_factors (aCons (eV 0) aNil)) (eLst (aCons (eTup (aCons (eV 0) (aCons (eC (.int 1)) aNil))) aNil)))))
def sem_is_prime : SF := S_is_prime_1
def m_is_prime : List D → G → Out D := mOf 1 1 sem_is_prime
theorem ok_is_prime (T : Top P K mg) : FnD P w K mg base (clOf T) 4 T.d_is_prime.f T.d_is_prime.fd ["number"] m_is_prime :=
  fn_m T.d_is_prime sc_is_prime rfl rfl fun cdv A outer s H E sa sb F0 H0 hr =>
 (dss_one (ds_ret (d_and (dcE (d_gt (d_var (pv 0)) d_int)) (d_one (dcE (d_eq rfl (hu65 hr) (d_call rfl (ok_factors T) (hr.mono (by decide)) rfl T.d_factors.g T.d_factors.F.kp T.d_factors.b (takes_of rfl rfl rfl rfl) (da_cons (d_var (pv 0)) da_nil)) (d_lst (da_cons (d_tup (da_cons (d_var (pv 0)) (da_cons d_int da_nil))) da_nil))))))))
def S_check_2 : SF := (sRaise "Misstep" "word" (eC (.str "prime")))
def S_check_1 : SF := (sIf (tOrF (tVal (eBin opEq (eV 0) (eC (.int 2)))) (tOrF (tVal (eBin opGt (eV 0) (eC (.int 61)))) (tNotF (tTru (eCall m_is_prime (aCons (eV 0) aNil))))))
 S_check_2
 sNil)
def sem_check : SF := S_check_1
def m_check : List D → G → Out D := mOf 1 1 sem_check
theorem ok_check (T : Top P K mg) : FnD P w K mg base (clOf T) 5 T.d_check.f T.d_check.fd ["prime"] m_check :=
  fn_m T.d_check sc_check rfl rfl fun cdv A outer s H E sa sb F0 H0 hr =>
 (dss_one (ds_if (dt_w (dw_or (dcT (d_eq rfl (hu65 hr) (d_var (pv 0)) d_int)) (dw_or (dcT (d_gt (d_var (pv 0)) d_int)) (dw_or1 (dt_not (dt_tru rfl (d_call rfl (ok_is_prime T) (hr.mono (by decide)) rfl T.d_is_prime.g T.d_is_prime.F.kp T.d_is_prime.b (takes_of rfl rfl rfl rfl) (da_cons (d_var (pv 0)) da_nil))))))))
 (dss_one (ds_raise rfl T.e_Misstep (in_Misstep T) (by decide) (cl_Misstep T) rfl (hr.mono (by decide)) (takes_of rfl rfl rfl rfl) rfl d_str))
 dss_nil))
def S_sum_of_signs_1 : SF := (sExpr (eCall m_check (aCons (eV 0) aNil)))
def S_sum_of_signs_2 : SF := (sSetO 2 (oRep (eLst (aCons (eC (.int 0)) aNil)) (eV 0)))
def S_sum_of_signs_4 : SF := (sAugIx 2 (fun i j => i + j) (eBin opMod (eBin opMul (eV 3) (eV 1)) (eV 0)) (eCall m_jacobi (aCons (eV 3) (aCons (eV 0) aNil))))
def B_sum_of_signs_3 : SF := S_sum_of_signs_4
def S_sum_of_signs_3 : SF := (sFor (iRan2 (aCons (eC (.int 1)) (aCons (eV 0) aNil))) (bName 3)
 B_sum_of_signs_3)
def S_sum_of_signs_5 : SF := (sRet (eCall m_settled (aCons (eV 2) aNil)))
def sem_sum_of_signs : SF := (sSeq S_sum_of_signs_1
 (sSeq S_sum_of_signs_2
 (sSeq S_sum_of_signs_3
 (sFrz 2 S_sum_of_signs_5))))
def m_sum_of_signs : List D → G → Out D := mOf 4 2 sem_sum_of_signs
theorem ok_sum_of_signs (T : Top P K mg) : FnD P w K mg base (clOf T) 6 T.d_sum_of_signs.f T.d_sum_of_signs.fd ["prime", "number"] m_sum_of_signs :=
  fn_m T.d_sum_of_signs sc_sum_of_signs rfl rfl fun cdv A outer s H E sa sb F0 H0 hr =>
 (dss_cons (ds_expr (d_call rfl (ok_check T) (hr.mono (by decide)) rfl T.d_check.g T.d_check.F.kp T.d_check.b (takes_of rfl rfl rfl rfl) (da_cons (d_var (pv 0)) da_nil)))
 (dss_cons (ds_setO (ps_set (i := 2) sc_sum_of_signs.nd rfl (.inl rfl) (o_rep (d_lst (da_cons d_int da_nil)) (d_var (pv 0)))))
 (dss_cons (ds_for (passes_of rfl) rfl (di_ran2 (by rfl) T.b_range (da_cons d_int (da_cons (d_var (pv 0)) da_nil))) (dg_name (pg_name (i := 3) sc_sum_of_signs.nd rfl (.inl rfl)))
 (dss_one (ds_augIx (i := 2) rfl (ps_augS (pv 2) (d_mod (d_mul (d_var (pv 3)) (d_var (pv 1))) (d_var (pv 0))) get_list (d_call rfl (ok_jacobi T) (hr.mono (by decide)) rfl T.d_jacobi.g T.d_jacobi.F.kp T.d_jacobi.b (takes_of rfl rfl rfl rfl) (da_cons (d_var (pv 3)) (da_cons (d_var (pv 0)) da_nil))) ip_add set_list))))
 (dss_frz (i := 2) (dss_one (ds_ret (d_call rfl (ok_settled T) (hr.mono (by decide)) rfl T.d_settled.g T.d_settled.F.kp T.d_settled.b (takes_of rfl rfl rfl rfl) (da_cons (d_var (pv 2)) da_nil))))))))
def S_sum_of_squares_1 : SF := (sExpr (eCall m_check (aCons (eV 0) aNil)))
def S_sum_of_squares_2 : SF := (sSetO 2 (oRep (eLst (aCons (eC (.int 0)) aNil)) (eV 0)))
def S_sum_of_squares_4 : SF := (sAugIx 2 (fun i j => i + j) (eBin opMod (eBin opMul (eBin opMul (eV 3) (eV 3)) (eV 1)) (eV 0)) (eC (.int 1)))
def B_sum_of_squares_3 : SF := S_sum_of_squares_4
def S_sum_of_squares_3 : SF := (sFor (iRan1 (aCons (eV 0) aNil)) (bName 3)
 B_sum_of_squares_3)
def S_sum_of_squares_5 : SF := (sRet (eCall m_settled (aCons (eV 2) aNil)))
def sem_sum_of_squares : SF := (sSeq S_sum_of_squares_1
 (sSeq S_sum_of_squares_2
 (sSeq S_sum_of_squares_3
 (sFrz 2 S_sum_of_squares_5))))
def m_sum_of_squares : List D → G → Out D := mOf 4 2 sem_sum_of_squares
theorem ok_sum_of_squares (T : Top P K mg) : FnD P w K mg base (clOf T) 6 T.d_sum_of_squares.f T.d_sum_of_squares.fd ["prime", "number"] m_sum_of_squares :=
  fn_m T.d_sum_of_squares sc_sum_of_squares rfl rfl fun cdv A outer s H E sa sb F0 H0 hr =>
 (dss_cons (ds_expr (d_call rfl (ok_check T) (hr.mono (by decide)) rfl T.d_check.g T.d_check.F.kp T.d_check.b (takes_of rfl rfl rfl rfl) (da_cons (d_var (pv 0)) da_nil)))
 (dss_cons (ds_setO (ps_set (i := 2) sc_sum_of_squares.nd rfl (.inl rfl) (o_rep (d_lst (da_cons d_int da_nil)) (d_var (pv 0)))))
 (dss_cons (ds_for (passes_of rfl) rfl (di_ran1 (by rfl) T.b_range (da_cons (d_var (pv 0)) da_nil)) (dg_name (pg_name (i := 3) sc_sum_of_squares.nd rfl (.inl rfl)))
 (dss_one (ds_augIx (i := 2) rfl (ps_augS (pv 2) (d_mod (d_mul (d_mul (d_var (pv 3)) (d_var (pv 3))) (d_var (pv 1))) (d_var (pv 0))) get_list d_int ip_add set_list))))
 (dss_frz (i := 2) (dss_one (ds_ret (d_call rfl (ok_settled T) (hr.mono (by decide)) rfl T.d_settled.g T.d_settled.F.kp T.d_settled.b (takes_of rfl rfl rfl rfl) (da_cons (d_var (pv 2)) da_nil))))))))
def S__law_word_2 : SF := (sExpr (eCall m_check (aCons (eV 0) aNil)))
def S__law_word_3 : SF := (sRet (eC (.str "")))
def S__law_word_4 : SF := (sRet (eExF 1 "word"))
def S__law_word_1 : SF := (sTry 1 "Misstep"
 (sSeq S__law_word_2
 S__law_word_3)
 S__law_word_4)
def sem__law_word : SF := S__law_word_1
def m__law_word : List D → G → Out D := mOf 2 1 sem__law_word
theorem ok__law_word (T : Top P K mg) : FnD P w K mg base (clOf T) 6 T.d__law_word.f T.d__law_word.fd ["value"] m__law_word :=
  fn_m T.d__law_word sc__law_word rfl rfl fun cdv A outer s H E sa sb F0 H0 hr =>
 (dss_one (ds_try (i := 1) rfl rfl sc__law_word.nd rfl rfl rfl ⟨rfl, rfl, .inl T.e_Misstep.g⟩ (cl_Misstep T) (hm_Misstep T) (takes_of rfl rfl rfl rfl) (fun W pn xe tk po => (dss_cons (ds_expr (d_call rfl (ok_check T) (hr.mono (by decide)) rfl T.d_check.g T.d_check.F.kp T.d_check.b tk (da_cons (d_var (pv 0)) da_nil)))
 (dss_one (ds_ret d_str))))
 (fun a dd oe pn hz hf => (dss_one (ds_ret (d_xf T.e_Misstep.xf T.e_Misstep.k.fin hz hf (pv 1)))))))
def S_many_sums_1 : SF := (sExpr (eCall m_check (aCons (eV 0) aNil)))
def S_many_sums_2 : SF := (sSet 3 (eCall m_whole (aCons (eV 0) (aCons (eCall m_power_of (aCons (eV 0) (aCons (eV 1) aNil))) aNil))))
def S_many_sums_4 : SF := (sSet 3 (eCall m_plus (aCons (eV 3) (aCons (eCall m_times (aCons (eCall m_power (aCons (eCall m_sum_of_squares (aCons (eV 0) (aCons (eV 4) aNil))) (aCons (eV 1) aNil))) (aCons (eCall m_root_power (aCons (eV 0) (aCons (eBin opSub (eC (.int 0)) (eBin opMul (eV 4) (eV 2))) aNil))) aNil))) aNil))))
def B_many_sums_3 : SF := S_many_sums_4
def S_many_sums_3 : SF := (sFor (iRan2 (aCons (eC (.int 1)) (aCons (eV 0) aNil))) (bName 4)
 B_many_sums_3)
def S_many_sums_6 : SF := (sRaise "Misstep" "word" (eC (.str "whole")))
def S_many_sums_5 : SF := (sIf (tOrF (tNotF (tTru (eCall m_is_whole_row (aCons (eV 3) aNil)))) (tVal (eBin opNe (eBin opMod (eBin opIx (eV 3) (eC (.int 0))) (eV 0)) (eC (.int 0)))))
 S_many_sums_6
 sNil)
def S_many_sums_7 : SF := (sRet (eBin opDiv (eBin opIx (eV 3) (eC (.int 0))) (eV 0)))
def sem_many_sums : SF := (sSeq S_many_sums_1
 (sSeq S_many_sums_2
 (sSeq S_many_sums_3
 (sSeq S_many_sums_5
 S_many_sums_7))))
def m_many_sums : List D → G → Out D := mOf 5 3 sem_many_sums
theorem ok_many_sums (T : Top P K mg) : FnD P w K mg base (clOf T) 7 T.d_many_sums.f T.d_many_sums.fd ["prime", "rows", "value"] m_many_sums :=
  fn_m T.d_many_sums sc_many_sums rfl rfl fun cdv A outer s H E sa sb F0 H0 hr =>
 (dss_cons (ds_expr (d_call rfl (ok_check T) (hr.mono (by decide)) rfl T.d_check.g T.d_check.F.kp T.d_check.b (takes_of rfl rfl rfl rfl) (da_cons (d_var (pv 0)) da_nil)))
 (dss_cons (ds_set (ps_set (i := 3) sc_many_sums.nd rfl (.inl rfl) (d_call rfl (ok_whole T) (hr.mono (by decide)) rfl T.d_whole.g T.d_whole.F.kp T.d_whole.b (takes_of rfl rfl rfl rfl) (da_cons (d_var (pv 0)) (da_cons (d_call rfl (ok_power_of T) (hr.mono (by decide)) rfl T.d_power_of.g T.d_power_of.F.kp T.d_power_of.b (takes_of rfl rfl rfl rfl) (da_cons (d_var (pv 0)) (da_cons (d_var (pv 1)) da_nil))) da_nil)))))
 (dss_cons (ds_for (passes_of rfl) rfl (di_ran2 (by rfl) T.b_range (da_cons d_int (da_cons (d_var (pv 0)) da_nil))) (dg_name (pg_name (i := 4) sc_many_sums.nd rfl (.inl rfl)))
 (dss_one (ds_set (ps_set (i := 3) sc_many_sums.nd rfl (.inl rfl) (d_call rfl (ok_plus T) (hr.mono (by decide)) rfl T.d_plus.g T.d_plus.F.kp T.d_plus.b (takes_of rfl rfl rfl rfl) (da_cons (d_var (pv 3)) (da_cons (d_call rfl (ok_times T) (hr.mono (by decide)) rfl T.d_times.g T.d_times.F.kp T.d_times.b (takes_of rfl rfl rfl rfl) (da_cons (d_call rfl (ok_power T) (hr.mono (by decide)) rfl T.d_power.g T.d_power.F.kp T.d_power.b (takes_of rfl rfl rfl rfl) (da_cons (d_call rfl (ok_sum_of_squares T) (hr.mono (by decide)) rfl T.d_sum_of_squares.g T.d_sum_of_squares.F.kp T.d_sum_of_squares.b (takes_of rfl rfl rfl rfl) (da_cons (d_var (pv 0)) (da_cons (d_var (pv 4)) da_nil))) (da_cons (d_var (pv 1)) da_nil))) (da_cons (d_call rfl (ok_root_power T) (hr.mono (by decide)) rfl T.d_root_power.g T.d_root_power.F.kp T.d_root_power.b (takes_of rfl rfl rfl rfl) (da_cons (d_var (pv 0)) (da_cons (d_sub d_int (d_mul (d_var (pv 4)) (d_var (pv 2)))) da_nil))) da_nil))) da_nil)))))))
 (dss_cons (ds_if (dt_w (dw_or (dt_not (dt_tru rfl (d_call rfl (ok_is_whole_row T) (hr.mono (by decide)) rfl T.d_is_whole_row.g T.d_is_whole_row.F.kp T.d_is_whole_row.b (takes_of rfl rfl rfl rfl) (da_cons (d_var (pv 3)) da_nil)))) (dw_or1 (dcT (d_ne rfl (hu65 hr) (d_mod (d_ix rfl (d_var (pv 3)) d_int) (d_var (pv 0))) d_int)))))
 (dss_one (ds_raise rfl T.e_Misstep (in_Misstep T) (by decide) (cl_Misstep T) rfl (hr.mono (by decide)) (takes_of rfl rfl rfl rfl) rfl d_str))
 dss_nil)
 (dss_one (ds_ret (d_div (d_ix rfl (d_var (pv 3)) d_int) (d_var (pv 0)))))))))
def S_turned_sign_1 : SF := (sExpr (eCall m_check (aCons (eV 0) aNil)))
def S_turned_sign_2 : SF := (sSet 2 (eCall m_rest_by (aCons (eCall m_power (aCons (eCall m_sum_of_signs (aCons (eV 0) (aCons (eC (.int 1)) aNil))) (aCons (eV 1) aNil))) (aCons (eV 1) aNil))))
def S_turned_sign_3 : SF := (sSet 3 (eCall m_rest_by (aCons (eCall m_sum_of_signs (aCons (eV 0) (aCons (eC (.int 1)) aNil))) (aCons (eV 1) aNil))))
def C_turned_sign_1 : OF' := oComp [5] (iSeq (eCall m_sum_of_signs (aCons (eV 0) (aCons (eC (.int 1)) aNil)))) (bName 5) tYesF (eBin opSub (eC (.int 0)) (eV 5))
def S_turned_sign_4 : SF := (sSet 4 (eCall m_rest_by (aCons (eCall bTuple (aCons (eOf C_turned_sign_1) aNil)) (aCons (eV 1) aNil))))
def S_turned_sign_6 : SF := (sRet (eC (.int 1)))
def S_turned_sign_5 : SF := (sIf (tVal (eBin opEq (eV 2) (eV 3)))
 S_turned_sign_6
 sNil)
def S_turned_sign_8 : SF := (sRet (eBin opSub (eC (.int 0)) (eC (.int 1))))
def S_turned_sign_7 : SF := (sIf (tVal (eBin opEq (eV 2) (eV 4)))
 S_turned_sign_8
 sNil)
def S_turned_sign_9 : SF := (sRaise "Misstep" "word" (eC (.str "prime")))
def sem_turned_sign : SF := (sSeq S_turned_sign_1
 (sSeq S_turned_sign_2
 (sSeq S_turned_sign_3
 (sSeq S_turned_sign_4
 (sSeq S_turned_sign_5
 (sSeq S_turned_sign_7
 S_turned_sign_9))))))
def m_turned_sign : List D → G → Out D := mOf 6 2 sem_turned_sign
theorem ok_turned_sign (T : Top P K mg) : FnD P w K mg base (clOf T) 7 T.d_turned_sign.f T.d_turned_sign.fd ["prime", "other"] m_turned_sign :=
  fn_m T.d_turned_sign sc_turned_sign rfl rfl fun cdv A outer s H E sa sb F0 H0 hr =>
 (dss_cons (ds_expr (d_call rfl (ok_check T) (hr.mono (by decide)) rfl T.d_check.g T.d_check.F.kp T.d_check.b (takes_of rfl rfl rfl rfl) (da_cons (d_var (pv 0)) da_nil)))
 (dss_cons (ds_set (ps_set (i := 2) sc_turned_sign.nd rfl (.inl rfl) (d_call rfl (ok_rest_by T) (hr.mono (by decide)) rfl T.d_rest_by.g T.d_rest_by.F.kp T.d_rest_by.b (takes_of rfl rfl rfl rfl) (da_cons (d_call rfl (ok_power T) (hr.mono (by decide)) rfl T.d_power.g T.d_power.F.kp T.d_power.b (takes_of rfl rfl rfl rfl) (da_cons (d_call rfl (ok_sum_of_signs T) (hr.mono (by decide)) rfl T.d_sum_of_signs.g T.d_sum_of_signs.F.kp T.d_sum_of_signs.b (takes_of rfl rfl rfl rfl) (da_cons (d_var (pv 0)) (da_cons d_int da_nil))) (da_cons (d_var (pv 1)) da_nil))) (da_cons (d_var (pv 1)) da_nil)))))
 (dss_cons (ds_set (ps_set (i := 3) sc_turned_sign.nd rfl (.inl rfl) (d_call rfl (ok_rest_by T) (hr.mono (by decide)) rfl T.d_rest_by.g T.d_rest_by.F.kp T.d_rest_by.b (takes_of rfl rfl rfl rfl) (da_cons (d_call rfl (ok_sum_of_signs T) (hr.mono (by decide)) rfl T.d_sum_of_signs.g T.d_sum_of_signs.F.kp T.d_sum_of_signs.b (takes_of rfl rfl rfl rfl) (da_cons (d_var (pv 0)) (da_cons d_int da_nil))) (da_cons (d_var (pv 1)) da_nil)))))
 (dss_cons (ds_set (ps_set (i := 4) sc_turned_sign.nd rfl (.inl rfl) (d_call rfl (ok_rest_by T) (hr.mono (by decide)) rfl T.d_rest_by.g T.d_rest_by.F.kp T.d_rest_by.b (takes_of rfl rfl rfl rfl) (da_cons (d_callT call_tuple_of kl_tuple rfl T.b_tuple (by decide +kernel) (da_cons (d_ofO (o_lc (own := [("number", 5)]) rfl sc_turned_sign.nd (di_seq rfl (d_call rfl (ok_sum_of_signs T) (hr.mono (by decide)) rfl T.d_sum_of_signs.g T.d_sum_of_signs.F.kp T.d_sum_of_signs.b (takes_of rfl rfl rfl rfl) (da_cons (d_var (pv 0)) (da_cons d_int da_nil)))) (blkOk_by (N := nm_turned_sign) (sc := defScope s_turned_sign) (by decide +kernel)) (by decide) (fun _ _ _ _ _ => (dg_name (pg_name (i := 5) sc_turned_sign.nd rfl (.inl rfl)))) (fun _ _ _ _ _ => dts_nil) (fun _ _ _ _ _ => (d_sub d_int (d_var (pv 5)))))) da_nil)) (da_cons (d_var (pv 1)) da_nil)))))
 (dss_cons (ds_if (dcT (d_eq rfl (hu65 hr) (d_var (pv 2)) (d_var (pv 3))))
 (dss_one (ds_ret d_int))
 dss_nil)
 (dss_cons (ds_if (dcT (d_eq rfl (hu65 hr) (d_var (pv 2)) (d_var (pv 4))))
 (dss_one (ds_ret (d_sub d_int d_int)))
 dss_nil)
 (dss_one (ds_raise rfl T.e_Misstep (in_Misstep T) (by decide) (cl_Misstep T) rfl (hr.mono (by decide)) (takes_of rfl rfl rfl rfl) rfl d_str))))))))
def S_law_1 : SF := (sTup [2, 3] (vOf (aCons (eCall m__law_pick (aCons (eV 1) (aCons (eLst (aCons (eC (.int 3)) (aCons (eC (.int 5)) (aCons (eC (.int 7)) (aCons (eC (.int 11)) (aCons (eC (.int 13)) (aCons (eC (.int 17)) (aCons (eC (.int 19)) aNil)))))))) aNil))) (aCons (eCall m__law_pick (aCons (eV 1) (aCons (eLst (aCons (eC (.int 3)) (aCons (eC (.int 5)) (aCons (eC (.int 7)) (aCons (eC (.int 11)) (aCons (eC (.int 13)) (aCons (eC (.int 17)) (aCons (eC (.int 19)) (aCons (eC (.int 23)) (aCons (eC (.int 29)) (aCons (eC (.int 31)) (aCons (eC (.int 37)) aNil)))))))))))) aNil))) aNil))))
def C_law_1 : OF' := oComp [4] (iRan1 (aCons (eV 2) aNil)) (bName 4) tYesF (eBin opSub (eCall m_take (aCons (eV 1) (aCons (eC (.int 11)) aNil))) (eC (.int 5)))
def S_law_2 : SF := (sSet 5 (eOf C_law_1))
def C_law_2 : OF' := oComp [4] (iRan1 (aCons (eBin opSub (eV 2) (eC (.int 1))) aNil)) (bName 4) tYesF (eBin opSub (eCall m_take (aCons (eV 1) (aCons (eC (.int 11)) aNil))) (eC (.int 5)))
def C_law_3 : OF' := oComp [4] (iRan1 (aCons (eBin opSub (eV 2) (eC (.int 1))) aNil)) (bName 4) tYesF (eBin opSub (eCall m_take (aCons (eV 1) (aCons (eC (.int 11)) aNil))) (eC (.int 5)))
def S_law_3 : SF := (sTup [6, 7] (vOf (aCons (eCall bTuple (aCons (eOf C_law_3) aNil)) (aCons (eCall bTuple (aCons (eOf C_law_2) aNil)) aNil))))
def C_law_4 : OF' := oComp [4] (iRan1 (aCons (eBin opSub (eV 2) (eC (.int 1))) aNil)) (bName 4) tYesF (eBin opAdd (eBin opIx (eV 6) (eV 4)) (eBin opIx (eV 7) (eV 4)))
def S_law_5 : SF := (sRet (eC (.bool false)))
def S_law_4 : SF := (sIf (tOrF (tVal (eBin opNe (eCall m_settled (aCons (eCall bList (aCons (eV 5) aNil)) aNil)) (eCall m__law_settled (aCons (eV 5) aNil)))) (tOrF (tVal (eBin opNe (eCall m_settled (aCons (eBin opMul (eLst (aCons (eC (.int 3)) aNil)) (eV 2)) aNil)) (eBin opMulT (eTup (aCons (eC (.int 0)) aNil)) (eBin opSub (eV 2) (eC (.int 1)))))) (tVal (eBin opNe (eCall m_plus (aCons (eV 6) (aCons (eV 7) aNil))) (eCall bTuple (aCons (eOf C_law_4) aNil))))))
 S_law_5
 sNil)
def S_law_7 : SF := (sRet (eC (.bool false)))
def S_law_6 : SF := (sIf (tOrF (tVal (eBin opNe (eCall m_times (aCons (eV 6) (aCons (eV 7) aNil))) (eCall m__law_times (aCons (eV 6) (aCons (eV 7) aNil))))) (tVal (eBin opNe (eCall m_whole (aCons (eV 2) (aCons (eC (.int 4)) aNil))) (eBin opAdd (eTup (aCons (eC (.int 4)) aNil)) (eBin opMulT (eTup (aCons (eC (.int 0)) aNil)) (eBin opSub (eV 2) (eC (.int 2))))))))
 S_law_7
 sNil)
def S_law_8 : SF := (sTup [8, 9] (vOf (aCons (eCall m_take (aCons (eV 1) (aCons (eC (.int 5)) aNil))) (aCons (eBin opAdd (eTup (aCons (eC (.int 1)) aNil)) (eBin opMulT (eTup (aCons (eC (.int 0)) aNil)) (eBin opSub (eV 2) (eC (.int 2))))) aNil))))
def S_law_10 : SF := (sSet 9 (eCall m__law_times (aCons (eV 9) (aCons (eV 6) aNil))))
def B_law_9 : SF := S_law_10
def S_law_9 : SF := (sFor (iRan1 (aCons (eV 8) aNil)) (bName 10)
 B_law_9)
def S_law_12 : SF := (sRet (eC (.bool false)))
def S_law_11 : SF := (sIf (tVal (eBin opNe (eCall m_power (aCons (eV 6) (aCons (eV 8) aNil))) (eV 9)))
 S_law_12
 sNil)
def S_law_13 : SF := (sSet 11 (eBin opSub (eCall m_take (aCons (eV 1) (aCons (eC (.int 60)) aNil))) (eC (.int 20))))
def S_law_14 : SF := (sSetO 12 (oRep (eLst (aCons (eC (.int 0)) aNil)) (eV 2)))
def S_law_15 : SF := (sSetIx 12 (eC (.int 1)) (eBin opMod (eCall bInt (aCons (eV 11) aNil)) (eV 2)))
def S_law_17 : SF := (sRet (eC (.bool false)))
def S_law_16 : SF := (sIf (tOrF (tVal (eBin opNe (eCall m_root_power (aCons (eV 2) (aCons (eV 11) aNil))) (eCall m__law_settled (aCons (eV 12) aNil)))) (tVal (eBin opNe (eCall m__law_times (aCons (eCall m_root_power (aCons (eV 2) (aCons (eV 11) aNil))) (aCons (eCall m_root_power (aCons (eV 2) (aCons (eBin opSub (eC (.int 0)) (eV 11)) aNil))) aNil))) (eBin opAdd (eTup (aCons (eC (.int 1)) aNil)) (eBin opMulT (eTup (aCons (eC (.int 0)) aNil)) (eBin opSub (eV 2) (eC (.int 2))))))))
 S_law_17
 sNil)
def S_law_18 : SF := (sSet 13 (eBin opAdd (eC (.int 1)) (eCall m_take (aCons (eV 1) (aCons (eBin opSub (eV 2) (eC (.int 1))) aNil)))))
def S_law_19 : SF := (sSetO 12 (oRep (eLst (aCons (eC (.int 0)) aNil)) (eV 2)))
def S_law_21 : SF := (sSetIx 12 (eBin opAdd (eIxA 12 (eBin opMod (eCall bInt (aCons (eBin opMul (eV 4) (eV 13)) aNil)) (eV 2))) (eBin opIx (eV 6) (eV 4))) (eBin opMod (eCall bInt (aCons (eBin opMul (eV 4) (eV 13)) aNil)) (eV 2)))
def B_law_20 : SF := S_law_21
def S_law_20 : SF := (sFor (iRan1 (aCons (eBin opSub (eV 2) (eC (.int 1))) aNil)) (bName 4)
 B_law_20)
def S_law_23 : SF := (sRet (eC (.bool false)))
def S_law_22 : SF := (sIf (tOrF (tVal (eBin opNe (eCall m_moved (aCons (eV 6) (aCons (eV 13) aNil))) (eCall m__law_settled (aCons (eV 12) aNil)))) (tVal (eBin opNe (eCall m_moved (aCons (eCall m__law_times (aCons (eV 6) (aCons (eV 7) aNil))) (aCons (eV 13) aNil))) (eCall m__law_times (aCons (eCall m_moved (aCons (eV 6) (aCons (eV 13) aNil))) (aCons (eCall m_moved (aCons (eV 7) (aCons (eV 13) aNil))) aNil))))))
 S_law_23
 sNil)
def S_law_24 : SF := (sSet 14 (eBin opMulT (eTup (aCons (eC (.int 0)) aNil)) (eBin opSub (eV 2) (eC (.int 1)))))
def C_law_5 : OF' := oComp [26] (iRan1 (aCons (eBin opSub (eV 2) (eC (.int 1))) aNil)) (bName 26) tYesF (eBin opAdd (eBin opIx (eV 14) (eV 26)) (eBin opIx (eCall m_moved (aCons (eV 6) (aCons (eV 4) aNil))) (eV 26)))
def S_law_26 : SF := (sSet 14 (eCall bTuple (aCons (eOf C_law_5) aNil)))
def B_law_25 : SF := S_law_26
def S_law_25 : SF := (sFor (iRan2 (aCons (eC (.int 1)) (aCons (eV 2) aNil))) (bName 4)
 B_law_25)
def C_law_6 : OF' := oComp [27] (iSeq (eSl (eV 6) (oSome (eC (.int 1))) oNone)) (bName 27) tYesF (eCall bAbs (aCons (eV 27) aNil))
def S_law_28 : SF := (sRet (eC (.bool false)))
def S_law_27 : SF := (sIf (tOrF (tVal (eBin opNe (eV 14) (eBin opAdd (eTup (aCons (eCall m_trace (aCons (eV 6) aNil)) aNil)) (eBin opMulT (eTup (aCons (eC (.int 0)) aNil)) (eBin opSub (eV 2) (eC (.int 2))))))) (tOrF (tVal (eBin opNotB (eCall m_is_whole_row (aCons (eV 14) aNil)) (eC (.bool true)))) (tVal (eBin opNe (eCall m_is_whole_row (aCons (eV 6) aNil)) (eBin opEq (eCall bMax (aCons (eOf C_law_6) aNil)) (eC (.int 0)))))))
 S_law_28
 sNil)
def S_law_29 : SF := (sTup [15, 16] (vOwn2 (oRep (eLst (aCons (eC (.int 0)) aNil)) (eV 2)) (oRep (eLst (aCons (eC (.int 0)) aNil)) (eV 2)) aNil))
def S_law_31 : SF := (sSetIx 15 (eBin opAdd (eIxA 15 (eBin opMod (eCall bInt (aCons (eBin opMul (eV 4) (eV 11)) aNil)) (eV 2))) (eIf (tVal (eBin opGt (eV 4) (eC (.int 0)))) (eCall m__law_jacobi (aCons (eV 4) (aCons (eV 2) aNil))) (eC (.int 0)))) (eBin opMod (eCall bInt (aCons (eBin opMul (eV 4) (eV 11)) aNil)) (eV 2)))
def S_law_32 : SF := (sSetIx 16 (eBin opAdd (eIxA 16 (eBin opMod (eCall bInt (aCons (eBin opMul (eBin opMul (eV 4) (eV 4)) (eV 11)) aNil)) (eV 2))) (eC (.int 1))) (eBin opMod (eCall bInt (aCons (eBin opMul (eBin opMul (eV 4) (eV 4)) (eV 11)) aNil)) (eV 2)))
def B_law_30 : SF := (sSeq S_law_31
 S_law_32)
def S_law_30 : SF := (sFor (iRan1 (aCons (eV 2) aNil)) (bName 4)
 B_law_30)
def S_law_34 : SF := (sRet (eC (.bool false)))
def S_law_33 : SF := (sIf (tOrF (tVal (eBin opNe (eCall m_sum_of_signs (aCons (eV 2) (aCons (eV 11) aNil))) (eCall m__law_settled (aCons (eV 15) aNil)))) (tVal (eBin opNe (eCall m_sum_of_squares (aCons (eV 2) (aCons (eV 11) aNil))) (eCall m__law_settled (aCons (eV 16) aNil)))))
 S_law_34
 sNil)
def S_law_35 : SF := (sSet 17 (eCall m_sum_of_signs (aCons (eV 2) (aCons (eC (.int 1)) aNil))))
def S_law_36 : SF := (sSet 18 (eIf (tVal (eBin opEq (eBin opMod (eCall bInt (aCons (eV 2) aNil)) (eC (.int 4))) (eC (.int 1)))) (eV 2) (eBin opSub (eC (.int 0)) (eV 2))))
def S_law_38 : SF := (sRet (eC (.bool false)))
def S_law_37 : SF := (sIf (tOrF (tVal (eBin opNe (eCall m_starred (aCons (eV 2) aNil)) (eV 18))) (tOrF (tVal (eBin opNe (eCall m__law_times (aCons (eV 17) (aCons (eV 17) aNil))) (eBin opAdd (eTup (aCons (eV 18) aNil)) (eBin opMulT (eTup (aCons (eC (.int 0)) aNil)) (eBin opSub (eV 2) (eC (.int 2))))))) (tVal (eBin opNe (eCall m_sum_of_squares (aCons (eV 2) (aCons (eC (.int 1)) aNil))) (eV 17)))))
 S_law_38
 sNil)
def C_law_7 : OF' := oComp [27] (iSeq (eV 6)) (bName 27) tYesF (eBin opMod (eCall bInt (aCons (eV 27) aNil)) (eV 3))
def C_law_8 : OF' := oComp [27] (iSeq (eV 17)) (bName 27) tYesF (eBin opMul (eCall m__law_jacobi (aCons (eV 13) (aCons (eV 2) aNil))) (eV 27))
def S_law_40 : SF := (sRet (eC (.bool false)))
def S_law_39 : SF := (sIf (tOrF (tVal (eBin opNe (eCall m_sum_of_signs (aCons (eV 2) (aCons (eV 13) aNil))) (eCall bTuple (aCons (eOf C_law_8) aNil)))) (tVal (eBin opNe (eCall m_rest_by (aCons (eV 6) (aCons (eV 3) aNil))) (eCall bTuple (aCons (eOf C_law_7) aNil)))))
 S_law_40
 sNil)
def S_law_42 : SF := (sSet 19 (eCall m_turned_sign (aCons (eV 2) (aCons (eV 3) aNil))))
def S_law_44 : SF := (sRet (eC (.bool false)))
def S_law_43 : SF := (sIf (tOrF (tVal (eBin opNe (eV 19) (eCall m__law_jacobi (aCons (eV 3) (aCons (eV 2) aNil))))) (tVal (eBin opNe (eV 19) (eCall m__law_jacobi (aCons (eV 18) (aCons (eV 3) aNil))))))
 S_law_44
 sNil)
def S_law_41 : SF := (sIf (tVal (eBin opNe (eV 2) (eV 3)))
 (sSeq S_law_42
 S_law_43)
 sNil)
def S_law_45 : SF := (sTup [20, 21] (vOf (aCons (eBin opAdd (eC (.int 1)) (eCall m_take (aCons (eV 1) (aCons (eC (.int 3)) aNil)))) (aCons (eCall m_take (aCons (eV 1) (aCons (eC (.int 40)) aNil))) aNil))))
def S_law_47 : SF := (sSet 22 (eBin opAdd (eLst (aCons (eC (.int 1)) aNil)) (eBin opMul (eLst (aCons (eC (.int 0)) aNil)) (eBin opSub (eV 2) (eC (.int 1))))))
def S_law_49 : SF := (sSetO 23 (oRep (eLst (aCons (eC (.int 0)) aNil)) (eV 2)))
def S_law_52 : SF := (sSetIx 23 (eBin opAdd (eIxA 23 (eBin opMod (eCall bInt (aCons (eBin opAdd (eV 4) (eBin opMul (eV 24) (eV 24))) aNil)) (eV 2))) (eBin opIx (eV 22) (eV 4))) (eBin opMod (eCall bInt (aCons (eBin opAdd (eV 4) (eBin opMul (eV 24) (eV 24))) aNil)) (eV 2)))
def B_law_51 : SF := S_law_52
def S_law_51 : SF := (sFor (iRan1 (aCons (eV 2) aNil)) (bName 24)
 B_law_51)
def B_law_50 : SF := S_law_51
def S_law_50 : SF := (sFor (iRan1 (aCons (eV 2) aNil)) (bName 4)
 B_law_50)
def S_law_53 : SF := (sSet 22 (eV 23))
def B_law_48 : SF := (sSeq S_law_49
 (sSeq S_law_50
 (sFrz 23 S_law_53)))
def S_law_48 : SF := (sFor (iRan1 (aCons (eV 20) aNil)) (bName 10)
 B_law_48)
def S_law_55 : SF := (sRet (eC (.bool false)))
def S_law_54 : SF := (sIf (tVal (eBin opNe (eCall m_many_sums (aCons (eV 2) (aCons (eV 20) (aCons (eV 21) aNil)))) (eBin opIx (eV 22) (eBin opMod (eCall bInt (aCons (eV 21) aNil)) (eV 2)))))
 S_law_55
 sNil)
def S_law_46 : SF := (sIf (tOrF (tVal (eBin opLt (eV 2) (eC (.int 12)))) (tVal (eBin opLt (eV 20) (eC (.int 3)))))
 (sSeq S_law_47
 (sSeq S_law_48
 S_law_54))
 sNil)
def C_law_9 : OF' := oComp [25] (iSeq (eTup (aCons (eC (.int 2)) (aCons (eC (.int 9)) (aCons (eC (.int 67)) (aCons (eC (.int 1)) (aCons (eC (.int 3)) (aCons (eC (.int 61)) aNil)))))))) (bName 25) tYesF (eCall m__law_word (aCons (eV 25) aNil))
def S_law_56 : SF := (sRet (eBin opEq (eOf C_law_9) (eBin opAdd (eBin opMul (eLst (aCons (eC (.str "prime")) aNil)) (eC (.int 4))) (eLst (aCons (eC (.str "")) (aCons (eC (.str "")) aNil))))))
def sem_law : SF := (sSeq S_law_1
 (sSeq S_law_2
 (sSeq S_law_3
 (sSeq S_law_4
 (sSeq S_law_6
 (sSeq S_law_8
 (sSeq S_law_9
 (sSeq S_law_11
 (sSeq S_law_13
 (sSeq S_law_14
 (sSeq S_law_15
 (sFrz 12 (sSeq S_law_16
 (sSeq S_law_18
 (sSeq S_law_19
 (sSeq S_law_20
 (sFrz 12 (sSeq S_law_22
 (sSeq S_law_24
 (sSeq S_law_25
 (sSeq S_law_27
 (sSeq S_law_29
 (sSeq S_law_30
 (sFrz 16 (sFrz 15 (sSeq S_law_33
 (sSeq S_law_35
 (sSeq S_law_36
 (sSeq S_law_37
 (sSeq S_law_39
 (sSeq S_law_41
 (sSeq S_law_45
 (sSeq S_law_46
 S_law_56)))))))))))))))))))))))))))))))))
def LawMath : Prop := ∀ cells : List Int, cells ≠ [] → ∃ g, sem_law (.un :: .d tokD :: List.replicate 26 .un) (0, cells) = .rt (.bool true) g
theorem ok_law (hm : LawMath) (T : Top P K mg) : FnOk P w K mg base (L2.CX P w) 8 T.d_law.f T.d_law.fd ["script"] (spLaw K) := by
  refine Fun.okX T.d_law.F sc_law (fun vs H Q E ⟨a, ns, e, _⟩ => by rw [e]; rfl) (fun cdv A outer s H vs Q E hr ⟨a, ns, ev, hS, hl, h4⟩ => ?_)
  subst ev
  exact ⟨_, pss_cons (ps_set (i := 1) sc_law.nd rfl (.inr rfl) (pe_callS (ok__law_state T) (hr.mono (by decide)) rfl T.d__law_state.g T.d__law_state.F.kp T.d__law_state.b (fun σ => passAt (takes_of rfl rfl rfl rfl) σ) (pa_cons (pv 0) pa_nil)))
    (rest_run (K := K) (cl := clOf T) (W := fun cls d _ H => E cls d H) fun sa sb F0 H0 =>
 (dss_cons (ds_tasg (is := [2, 3]) (ps_asg (pe_tup (dv_of (da_cons (d_call rfl (ok__law_pick T) (hr.mono (by decide)) rfl T.d__law_pick.g T.d__law_pick.F.kp T.d__law_pick.b (takes_of rfl rfl rfl rfl) (da_cons (d_var (pv 1)) (da_cons (d_lst (da_cons d_int (da_cons d_int (da_cons d_int (da_cons d_int (da_cons d_int (da_cons d_int (da_cons d_int da_nil)))))))) da_nil))) (da_cons (d_call rfl (ok__law_pick T) (hr.mono (by decide)) rfl T.d__law_pick.g T.d__law_pick.F.kp T.d__law_pick.b (takes_of rfl rfl rfl rfl) (da_cons (d_var (pv 1)) (da_cons (d_lst (da_cons d_int (da_cons d_int (da_cons d_int (da_cons d_int (da_cons d_int (da_cons d_int (da_cons d_int (da_cons d_int (da_cons d_int (da_cons d_int (da_cons d_int da_nil)))))))))))) da_nil))) da_nil)))) (pg_tup rfl (pgs_cons (pg_name (i := 2) sc_law.nd rfl (.inr rfl)) (pgs_cons (pg_name (i := 3) sc_law.nd rfl (.inr rfl)) pgs_nil)))) rfl (by decide))
 (dss_cons (ds_lc (i := 5) (by decide) (ps_setLc (i := 5) (own := [("k", 4)]) rfl sc_law.nd rfl rfl (sw_true rfl rfl rfl (by decide +kernel)) (di_ran1 (by rfl) T.b_range (da_cons (d_var (pv 2)) da_nil)) (blkOk_by (N := nm_law) (sc := defScope s_law) (by decide +kernel)) (fun _ _ _ _ _ => (dg_name (pg_name (i := 4) sc_law.nd (by rfl) (.inl (by rfl))))) (fun _ _ _ _ _ => dts_nil) (fun _ _ _ _ _ => (d_sub (d_call (by rfl) (ok__law_take T) (hr.mono (by decide)) (by rfl) T.d__law_take.g T.d__law_take.F.kp T.d__law_take.b takes0 (da_cons (d_var (pv 1)) (da_cons d_int da_nil))) d_int))))
 (dss_cons (ds_tasg (is := [6, 7]) (ps_asg (pe_tup (dv_of (da_cons (d_callT call_tuple_of kl_tuple rfl T.b_tuple (by decide +kernel) (da_cons (d_ofO (o_lc (own := [("k", 4)]) rfl sc_law.nd (di_ran1 (by rfl) T.b_range (da_cons (d_sub (d_var (pv 2)) d_int) da_nil)) (blkOk_by (N := nm_law) (sc := defScope s_law) (by decide +kernel)) (by decide) (fun _ _ _ _ _ => (dg_name (pg_name (i := 4) sc_law.nd rfl (.inl rfl)))) (fun _ _ _ _ _ => dts_nil) (fun _ _ _ _ _ => (d_sub (d_call rfl (ok__law_take T) (hr.mono (by decide)) rfl T.d__law_take.g T.d__law_take.F.kp T.d__law_take.b takes0 (da_cons (d_var (pv 1)) (da_cons d_int da_nil))) d_int)))) da_nil)) (da_cons (d_callT call_tuple_of kl_tuple rfl T.b_tuple (by decide +kernel) (da_cons (d_ofO (o_lc (own := [("k", 4)]) rfl sc_law.nd (di_ran1 (by rfl) T.b_range (da_cons (d_sub (d_var (pv 2)) d_int) da_nil)) (blkOk_by (N := nm_law) (sc := defScope s_law) (by decide +kernel)) (by decide) (fun _ _ _ _ _ => (dg_name (pg_name (i := 4) sc_law.nd rfl (.inl rfl)))) (fun _ _ _ _ _ => dts_nil) (fun _ _ _ _ _ => (d_sub (d_call rfl (ok__law_take T) (hr.mono (by decide)) rfl T.d__law_take.g T.d__law_take.F.kp T.d__law_take.b takes0 (da_cons (d_var (pv 1)) (da_cons d_int da_nil))) d_int)))) da_nil)) da_nil)))) (pg_tup rfl (pgs_cons (pg_name (i := 6) sc_law.nd rfl (.inr rfl)) (pgs_cons (pg_name (i := 7) sc_law.nd rfl (.inr rfl)) pgs_nil)))) rfl (by decide))
 (dss_cons (ds_if (dt_w (dw_or (dcT (d_ne rfl (hu65 hr) (d_call rfl (ok_settled T) (hr.mono (by decide)) rfl T.d_settled.g T.d_settled.F.kp T.d_settled.b (takes_of rfl rfl rfl rfl) (da_cons (d_callT call_list_of kl_list rfl T.b_list (by decide +kernel) (da_cons (d_var (pv 5)) da_nil)) da_nil)) (d_call rfl (ok__law_settled T) (hr.mono (by decide)) rfl T.d__law_settled.g T.d__law_settled.F.kp T.d__law_settled.b (takes_of rfl rfl rfl rfl) (da_cons (d_var (pv 5)) da_nil)))) (dw_or (dcT (d_ne rfl (hu65 hr) (d_call rfl (ok_settled T) (hr.mono (by decide)) rfl T.d_settled.g T.d_settled.F.kp T.d_settled.b (takes_of rfl rfl rfl rfl) (da_cons (d_mul (d_lst (da_cons d_int da_nil)) (d_var (pv 2))) da_nil)) (d_mulT rfl (d_tup (da_cons d_int da_nil)) (d_sub (d_var (pv 2)) d_int)))) (dw_or1 (dcT (d_ne rfl (hu65 hr) (d_call rfl (ok_plus T) (hr.mono (by decide)) rfl T.d_plus.g T.d_plus.F.kp T.d_plus.b (takes_of rfl rfl rfl rfl) (da_cons (d_var (pv 6)) (da_cons (d_var (pv 7)) da_nil))) (d_callT call_tuple_of kl_tuple rfl T.b_tuple (by decide +kernel) (da_cons (d_ofO (o_lc (own := [("k", 4)]) rfl sc_law.nd (di_ran1 (by rfl) T.b_range (da_cons (d_sub (d_var (pv 2)) d_int) da_nil)) (blkOk_by (N := nm_law) (sc := defScope s_law) (by decide +kernel)) (by decide) (fun _ _ _ _ _ => (dg_name (pg_name (i := 4) sc_law.nd rfl (.inl rfl)))) (fun _ _ _ _ _ => dts_nil) (fun _ _ _ _ _ => (d_add rfl (d_ix rfl (d_var (pv 6)) (d_var (pv 4))) (d_ix rfl (d_var (pv 7)) (d_var (pv 4))))))) da_nil))))))))
 (dss_one (ds_ret d_bl))
 dss_nil)
 (dss_cons (ds_if (dt_w (dw_or (dcT (d_ne rfl (hu65 hr) (d_call rfl (ok_times T) (hr.mono (by decide)) rfl T.d_times.g T.d_times.F.kp T.d_times.b (takes_of rfl rfl rfl rfl) (da_cons (d_var (pv 6)) (da_cons (d_var (pv 7)) da_nil))) (d_call rfl (ok__law_times T) (hr.mono (by decide)) rfl T.d__law_times.g T.d__law_times.F.kp T.d__law_times.b (takes_of rfl rfl rfl rfl) (da_cons (d_var (pv 6)) (da_cons (d_var (pv 7)) da_nil))))) (dw_or1 (dcT (d_ne rfl (hu65 hr) (d_call rfl (ok_whole T) (hr.mono (by decide)) rfl T.d_whole.g T.d_whole.F.kp T.d_whole.b (takes_of rfl rfl rfl rfl) (da_cons (d_var (pv 2)) (da_cons d_int da_nil))) (d_add rfl (d_tup (da_cons d_int da_nil)) (d_mulT rfl (d_tup (da_cons d_int da_nil)) (d_sub (d_var (pv 2)) d_int))))))))
 (dss_one (ds_ret d_bl))
 dss_nil)
 (dss_cons (ds_tpar (ps_par (i := 8) (j := 9) rfl sc_law.nd rfl rfl (by decide) rfl rfl (dv_of (da_cons (d_call rfl (ok__law_take T) (hr.mono (by decide)) rfl T.d__law_take.g T.d__law_take.F.kp T.d__law_take.b (takes_of rfl rfl rfl rfl) (da_cons (d_var (pv 1)) (da_cons d_int da_nil))) (da_cons (d_add rfl (d_tup (da_cons d_int da_nil)) (d_mulT rfl (d_tup (da_cons d_int da_nil)) (d_sub (d_var (pv 2)) d_int))) da_nil))) (by rfl)))
 (dss_cons (ds_for (passes_of rfl) rfl (di_ran1 (by rfl) T.b_range (da_cons (d_var (pv 8)) da_nil)) (dg_name (pg_name (i := 10) sc_law.nd rfl (.inl rfl)))
 (dss_one (ds_set (ps_set (i := 9) sc_law.nd rfl (.inl rfl) (d_call rfl (ok__law_times T) (hr.mono (by decide)) rfl T.d__law_times.g T.d__law_times.F.kp T.d__law_times.b (takes_of rfl rfl rfl rfl) (da_cons (d_var (pv 9)) (da_cons (d_var (pv 6)) da_nil)))))))
 (dss_cons (ds_if (dcT (d_ne rfl (hu65 hr) (d_call rfl (ok_power T) (hr.mono (by decide)) rfl T.d_power.g T.d_power.F.kp T.d_power.b (takes_of rfl rfl rfl rfl) (da_cons (d_var (pv 6)) (da_cons (d_var (pv 8)) da_nil))) (d_var (pv 9))))
 (dss_one (ds_ret d_bl))
 dss_nil)
 (dss_cons (ds_set (ps_set (i := 11) sc_law.nd rfl (.inl rfl) (d_sub (d_call rfl (ok__law_take T) (hr.mono (by decide)) rfl T.d__law_take.g T.d__law_take.F.kp T.d__law_take.b (takes_of rfl rfl rfl rfl) (da_cons (d_var (pv 1)) (da_cons d_int da_nil))) d_int)))
 (dss_cons (ds_setO (ps_set (i := 12) sc_law.nd rfl (.inl rfl) (o_rep (d_lst (da_cons d_int da_nil)) (d_var (pv 2)))))
 (dss_cons (ds_setIx (i := 12) (ps_asg d_int (pg_sub (pv 12) (d_mod (d_callT call_int1 kl_int rfl T.b_int (by decide +kernel) (da_cons (d_var (pv 11)) da_nil)) (d_var (pv 2))) set_list)))
 (dss_frz (i := 12) (dss_cons (ds_if (dt_w (dw_or (dcT (d_ne rfl (hu65 hr) (d_call rfl (ok_root_power T) (hr.mono (by decide)) rfl T.d_root_power.g T.d_root_power.F.kp T.d_root_power.b (takes_of rfl rfl rfl rfl) (da_cons (d_var (pv 2)) (da_cons (d_var (pv 11)) da_nil))) (d_call rfl (ok__law_settled T) (hr.mono (by decide)) rfl T.d__law_settled.g T.d__law_settled.F.kp T.d__law_settled.b (takes_of rfl rfl rfl rfl) (da_cons (d_var (pv 12)) da_nil)))) (dw_or1 (dcT (d_ne rfl (hu65 hr) (d_call rfl (ok__law_times T) (hr.mono (by decide)) rfl T.d__law_times.g T.d__law_times.F.kp T.d__law_times.b (takes_of rfl rfl rfl rfl) (da_cons (d_call rfl (ok_root_power T) (hr.mono (by decide)) rfl T.d_root_power.g T.d_root_power.F.kp T.d_root_power.b (takes_of rfl rfl rfl rfl) (da_cons (d_var (pv 2)) (da_cons (d_var (pv 11)) da_nil))) (da_cons (d_call rfl (ok_root_power T) (hr.mono (by decide)) rfl T.d_root_power.g T.d_root_power.F.kp T.d_root_power.b (takes_of rfl rfl rfl rfl) (da_cons (d_var (pv 2)) (da_cons (d_sub d_int (d_var (pv 11))) da_nil))) da_nil))) (d_add rfl (d_tup (da_cons d_int da_nil)) (d_mulT rfl (d_tup (da_cons d_int da_nil)) (d_sub (d_var (pv 2)) d_int))))))))
 (dss_one (ds_ret d_bl))
 dss_nil)
 (dss_cons (ds_set (ps_set (i := 13) sc_law.nd rfl (.inr rfl) (d_add rfl d_int (d_call rfl (ok__law_take T) (hr.mono (by decide)) rfl T.d__law_take.g T.d__law_take.F.kp T.d__law_take.b (takes_of rfl rfl rfl rfl) (da_cons (d_var (pv 1)) (da_cons (d_sub (d_var (pv 2)) d_int) da_nil))))))
 (dss_cons (ds_setO (ps_set (i := 12) sc_law.nd rfl (.inl rfl) (o_rep (d_lst (da_cons d_int da_nil)) (d_var (pv 2)))))
 (dss_cons (ds_for (passes_of rfl) rfl (di_ran1 (by rfl) T.b_range (da_cons (d_sub (d_var (pv 2)) d_int) da_nil)) (dg_name (pg_name (i := 4) sc_law.nd rfl (.inr rfl)))
 (dss_one (ds_setIx (i := 12) (ps_asg (d_add rfl (d_ixA rfl (pe_ix ix_seq (pv 12) (d_mod (d_callT call_int1 kl_int rfl T.b_int (by decide +kernel) (da_cons (d_mul (d_var (pv 4)) (d_var (pv 13))) da_nil)) (d_var (pv 2))) (fun _ _ => rfl))) (d_ix rfl (d_var (pv 6)) (d_var (pv 4)))) (pg_sub (pv 12) (d_mod (d_callT call_int1 kl_int rfl T.b_int (by decide +kernel) (da_cons (d_mul (d_var (pv 4)) (d_var (pv 13))) da_nil)) (d_var (pv 2))) set_list)))))
 (dss_frz (i := 12) (dss_cons (ds_if (dt_w (dw_or (dcT (d_ne rfl (hu65 hr) (d_call rfl (ok_moved T) (hr.mono (by decide)) rfl T.d_moved.g T.d_moved.F.kp T.d_moved.b (takes_of rfl rfl rfl rfl) (da_cons (d_var (pv 6)) (da_cons (d_var (pv 13)) da_nil))) (d_call rfl (ok__law_settled T) (hr.mono (by decide)) rfl T.d__law_settled.g T.d__law_settled.F.kp T.d__law_settled.b (takes_of rfl rfl rfl rfl) (da_cons (d_var (pv 12)) da_nil)))) (dw_or1 (dcT (d_ne rfl (hu65 hr) (d_call rfl (ok_moved T) (hr.mono (by decide)) rfl T.d_moved.g T.d_moved.F.kp T.d_moved.b (takes_of rfl rfl rfl rfl) (da_cons (d_call rfl (ok__law_times T) (hr.mono (by decide)) rfl T.d__law_times.g T.d__law_times.F.kp T.d__law_times.b (takes_of rfl rfl rfl rfl) (da_cons (d_var (pv 6)) (da_cons (d_var (pv 7)) da_nil))) (da_cons (d_var (pv 13)) da_nil))) (d_call rfl (ok__law_times T) (hr.mono (by decide)) rfl T.d__law_times.g T.d__law_times.F.kp T.d__law_times.b (takes_of rfl rfl rfl rfl) (da_cons (d_call rfl (ok_moved T) (hr.mono (by decide)) rfl T.d_moved.g T.d_moved.F.kp T.d_moved.b (takes_of rfl rfl rfl rfl) (da_cons (d_var (pv 6)) (da_cons (d_var (pv 13)) da_nil))) (da_cons (d_call rfl (ok_moved T) (hr.mono (by decide)) rfl T.d_moved.g T.d_moved.F.kp T.d_moved.b (takes_of rfl rfl rfl rfl) (da_cons (d_var (pv 7)) (da_cons (d_var (pv 13)) da_nil))) da_nil))))))))
 (dss_one (ds_ret d_bl))
 dss_nil)
 (dss_cons (ds_set (ps_set (i := 14) sc_law.nd rfl (.inr rfl) (d_mulT rfl (d_tup (da_cons d_int da_nil)) (d_sub (d_var (pv 2)) d_int))))
 (dss_cons (ds_for (passes_of rfl) rfl (di_ran2 (by rfl) T.b_range (da_cons d_int (da_cons (d_var (pv 2)) da_nil))) (dg_name (pg_name (i := 4) sc_law.nd rfl (.inr rfl)))
 (dss_one (ds_set (ps_set (i := 14) sc_law.nd rfl (.inr rfl) (d_callT call_tuple_of kl_tuple rfl T.b_tuple (by decide +kernel) (da_cons (d_ofO (o_lc (own := [("j", 26)]) rfl sc_law.nd (di_ran1 (by rfl) T.b_range (da_cons (d_sub (d_var (pv 2)) d_int) da_nil)) (blkOk_by (N := nm_law) (sc := defScope s_law) (by decide +kernel)) (by decide) (fun _ _ _ _ _ => (dg_name (pg_name (i := 26) sc_law.nd rfl (.inl rfl)))) (fun _ _ _ _ _ => dts_nil) (fun _ _ _ _ _ => (d_add rfl (d_ix rfl (d_var (pv 14)) (d_var (pv 26))) (d_ix rfl (d_call rfl (ok_moved T) (hr.mono (by decide)) rfl T.d_moved.g T.d_moved.F.kp T.d_moved.b takes0 (da_cons (d_var (pv 6)) (da_cons (d_var (pv 4)) da_nil))) (d_var (pv 26))))))) da_nil))))))
 (dss_cons (ds_if (dt_w (dw_or (dcT (d_ne rfl (hu65 hr) (d_var (pv 14)) (d_add rfl (d_tup (da_cons (d_call rfl (ok_trace T) (hr.mono (by decide)) rfl T.d_trace.g T.d_trace.F.kp T.d_trace.b (takes_of rfl rfl rfl rfl) (da_cons (d_var (pv 6)) da_nil)) da_nil)) (d_mulT rfl (d_tup (da_cons d_int da_nil)) (d_sub (d_var (pv 2)) d_int))))) (dw_or (dcT (d_notB (d_call rfl (ok_is_whole_row T) (hr.mono (by decide)) rfl T.d_is_whole_row.g T.d_is_whole_row.F.kp T.d_is_whole_row.b (takes_of rfl rfl rfl rfl) (da_cons (d_var (pv 14)) da_nil)) d_bl)) (dw_or1 (dcT (d_ne rfl (hu65 hr) (d_call rfl (ok_is_whole_row T) (hr.mono (by decide)) rfl T.d_is_whole_row.g T.d_is_whole_row.F.kp T.d_is_whole_row.b (takes_of rfl rfl rfl rfl) (da_cons (d_var (pv 6)) da_nil)) (dcE (d_eq rfl (hu65 hr) (d_callB (cr_max rfl) kl_max rfl T.b_max (by decide +kernel) (da_cons (d_ofO (o_lc (own := [("n", 27)]) rfl sc_law.nd (di_seq rfl (d_sl rfl (d_var (pv 6)) (do_some d_int) do_none)) (blkOk_by (N := nm_law) (sc := defScope s_law) (by decide +kernel)) (by decide) (fun _ _ _ _ _ => (dg_name (pg_name (i := 27) sc_law.nd rfl (.inl rfl)))) (fun _ _ _ _ _ => dts_nil) (fun _ _ _ _ _ => (d_callB call_abs kl_abs rfl T.b_abs (by decide +kernel) (da_cons (d_var (pv 27)) da_nil))))) da_nil)) d_int))))))))
 (dss_one (ds_ret d_bl))
 dss_nil)
 (dss_cons (ds_tpar (ps_par (i := 15) (j := 16) rfl sc_law.nd rfl rfl (by decide) rfl rfl (dv_own2 (o_rep (d_lst (da_cons d_int da_nil)) (d_var (pv 2))) (o_rep (d_lst (da_cons d_int da_nil)) (d_var (pv 2))) da_nil) (by rfl)))
 (dss_cons (ds_for (passes_of rfl) rfl (di_ran1 (by rfl) T.b_range (da_cons (d_var (pv 2)) da_nil)) (dg_name (pg_name (i := 4) sc_law.nd rfl (.inr rfl)))
 (dss_cons (ds_setIx (i := 15) (ps_asg (d_add rfl (d_ixA rfl (pe_ix ix_seq (pv 15) (d_mod (d_callT call_int1 kl_int rfl T.b_int (by decide +kernel) (da_cons (d_mul (d_var (pv 4)) (d_var (pv 11))) da_nil)) (d_var (pv 2))) (fun _ _ => rfl))) (d_if (dcT (d_gt (d_var (pv 4)) d_int)) (d_call rfl (ok__law_jacobi T) (hr.mono (by decide)) rfl T.d__law_jacobi.g T.d__law_jacobi.F.kp T.d__law_jacobi.b (takes_of rfl rfl rfl rfl) (da_cons (d_var (pv 4)) (da_cons (d_var (pv 2)) da_nil))) d_int)) (pg_sub (pv 15) (d_mod (d_callT call_int1 kl_int rfl T.b_int (by decide +kernel) (da_cons (d_mul (d_var (pv 4)) (d_var (pv 11))) da_nil)) (d_var (pv 2))) set_list)))
 (dss_one (ds_setIx (i := 16) (ps_asg (d_add rfl (d_ixA rfl (pe_ix ix_seq (pv 16) (d_mod (d_callT call_int1 kl_int rfl T.b_int (by decide +kernel) (da_cons (d_mul (d_mul (d_var (pv 4)) (d_var (pv 4))) (d_var (pv 11))) da_nil)) (d_var (pv 2))) (fun _ _ => rfl))) d_int) (pg_sub (pv 16) (d_mod (d_callT call_int1 kl_int rfl T.b_int (by decide +kernel) (da_cons (d_mul (d_mul (d_var (pv 4)) (d_var (pv 4))) (d_var (pv 11))) da_nil)) (d_var (pv 2))) set_list))))))
 (dss_frz (i := 16) (dss_frz (i := 15) (dss_cons (ds_if (dt_w (dw_or (dcT (d_ne rfl (hu65 hr) (d_call rfl (ok_sum_of_signs T) (hr.mono (by decide)) rfl T.d_sum_of_signs.g T.d_sum_of_signs.F.kp T.d_sum_of_signs.b (takes_of rfl rfl rfl rfl) (da_cons (d_var (pv 2)) (da_cons (d_var (pv 11)) da_nil))) (d_call rfl (ok__law_settled T) (hr.mono (by decide)) rfl T.d__law_settled.g T.d__law_settled.F.kp T.d__law_settled.b (takes_of rfl rfl rfl rfl) (da_cons (d_var (pv 15)) da_nil)))) (dw_or1 (dcT (d_ne rfl (hu65 hr) (d_call rfl (ok_sum_of_squares T) (hr.mono (by decide)) rfl T.d_sum_of_squares.g T.d_sum_of_squares.F.kp T.d_sum_of_squares.b (takes_of rfl rfl rfl rfl) (da_cons (d_var (pv 2)) (da_cons (d_var (pv 11)) da_nil))) (d_call rfl (ok__law_settled T) (hr.mono (by decide)) rfl T.d__law_settled.g T.d__law_settled.F.kp T.d__law_settled.b (takes_of rfl rfl rfl rfl) (da_cons (d_var (pv 16)) da_nil)))))))
 (dss_one (ds_ret d_bl))
 dss_nil)
 (dss_cons (ds_set (ps_set (i := 17) sc_law.nd rfl (.inl rfl) (d_call rfl (ok_sum_of_signs T) (hr.mono (by decide)) rfl T.d_sum_of_signs.g T.d_sum_of_signs.F.kp T.d_sum_of_signs.b (takes_of rfl rfl rfl rfl) (da_cons (d_var (pv 2)) (da_cons d_int da_nil)))))
 (dss_cons (ds_set (ps_set (i := 18) sc_law.nd rfl (.inl rfl) (d_if (dcT (d_eq rfl (hu65 hr) (d_mod (d_callT call_int1 kl_int rfl T.b_int (by decide +kernel) (da_cons (d_var (pv 2)) da_nil)) d_int) d_int)) (d_var (pv 2)) (d_sub d_int (d_var (pv 2))))))
 (dss_cons (ds_if (dt_w (dw_or (dcT (d_ne rfl (hu65 hr) (d_call rfl (ok_starred T) (hr.mono (by decide)) rfl T.d_starred.g T.d_starred.F.kp T.d_starred.b (takes_of rfl rfl rfl rfl) (da_cons (d_var (pv 2)) da_nil)) (d_var (pv 18)))) (dw_or (dcT (d_ne rfl (hu65 hr) (d_call rfl (ok__law_times T) (hr.mono (by decide)) rfl T.d__law_times.g T.d__law_times.F.kp T.d__law_times.b (takes_of rfl rfl rfl rfl) (da_cons (d_var (pv 17)) (da_cons (d_var (pv 17)) da_nil))) (d_add rfl (d_tup (da_cons (d_var (pv 18)) da_nil)) (d_mulT rfl (d_tup (da_cons d_int da_nil)) (d_sub (d_var (pv 2)) d_int))))) (dw_or1 (dcT (d_ne rfl (hu65 hr) (d_call rfl (ok_sum_of_squares T) (hr.mono (by decide)) rfl T.d_sum_of_squares.g T.d_sum_of_squares.F.kp T.d_sum_of_squares.b (takes_of rfl rfl rfl rfl) (da_cons (d_var (pv 2)) (da_cons d_int da_nil))) (d_var (pv 17))))))))
 (dss_one (ds_ret d_bl))
 dss_nil)
 (dss_cons (ds_if (dt_w (dw_or (dcT (d_ne rfl (hu65 hr) (d_call rfl (ok_sum_of_signs T) (hr.mono (by decide)) rfl T.d_sum_of_signs.g T.d_sum_of_signs.F.kp T.d_sum_of_signs.b (takes_of rfl rfl rfl rfl) (da_cons (d_var (pv 2)) (da_cons (d_var (pv 13)) da_nil))) (d_callT call_tuple_of kl_tuple rfl T.b_tuple (by decide +kernel) (da_cons (d_ofO (o_lc (own := [("n", 27)]) rfl sc_law.nd (di_seq rfl (d_var (pv 17))) (blkOk_by (N := nm_law) (sc := defScope s_law) (by decide +kernel)) (by decide) (fun _ _ _ _ _ => (dg_name (pg_name (i := 27) sc_law.nd rfl (.inl rfl)))) (fun _ _ _ _ _ => dts_nil) (fun _ _ _ _ _ => (d_mul (d_call rfl (ok__law_jacobi T) (hr.mono (by decide)) rfl T.d__law_jacobi.g T.d__law_jacobi.F.kp T.d__law_jacobi.b takes0 (da_cons (d_var (pv 13)) (da_cons (d_var (pv 2)) da_nil))) (d_var (pv 27)))))) da_nil)))) (dw_or1 (dcT (d_ne rfl (hu65 hr) (d_call rfl (ok_rest_by T) (hr.mono (by decide)) rfl T.d_rest_by.g T.d_rest_by.F.kp T.d_rest_by.b (takes_of rfl rfl rfl rfl) (da_cons (d_var (pv 6)) (da_cons (d_var (pv 3)) da_nil))) (d_callT call_tuple_of kl_tuple rfl T.b_tuple (by decide +kernel) (da_cons (d_ofO (o_lc (own := [("n", 27)]) rfl sc_law.nd (di_seq rfl (d_var (pv 6))) (blkOk_by (N := nm_law) (sc := defScope s_law) (by decide +kernel)) (by decide) (fun _ _ _ _ _ => (dg_name (pg_name (i := 27) sc_law.nd rfl (.inl rfl)))) (fun _ _ _ _ _ => dts_nil) (fun _ _ _ _ _ => (d_mod (d_callT call_int1 kl_int rfl T.b_int (by decide +kernel) (da_cons (d_var (pv 27)) da_nil)) (d_var (pv 3)))))) da_nil)))))))
 (dss_one (ds_ret d_bl))
 dss_nil)
 (dss_cons (ds_if (dcT (d_ne rfl (hu65 hr) (d_var (pv 2)) (d_var (pv 3))))
 (dss_cons (ds_set (ps_set (i := 19) sc_law.nd rfl (.inl rfl) (d_call rfl (ok_turned_sign T) (hr.mono (by decide)) rfl T.d_turned_sign.g T.d_turned_sign.F.kp T.d_turned_sign.b (takes_of rfl rfl rfl rfl) (da_cons (d_var (pv 2)) (da_cons (d_var (pv 3)) da_nil)))))
 (dss_one (ds_if (dt_w (dw_or (dcT (d_ne rfl (hu65 hr) (d_var (pv 19)) (d_call rfl (ok__law_jacobi T) (hr.mono (by decide)) rfl T.d__law_jacobi.g T.d__law_jacobi.F.kp T.d__law_jacobi.b (takes_of rfl rfl rfl rfl) (da_cons (d_var (pv 3)) (da_cons (d_var (pv 2)) da_nil))))) (dw_or1 (dcT (d_ne rfl (hu65 hr) (d_var (pv 19)) (d_call rfl (ok__law_jacobi T) (hr.mono (by decide)) rfl T.d__law_jacobi.g T.d__law_jacobi.F.kp T.d__law_jacobi.b (takes_of rfl rfl rfl rfl) (da_cons (d_var (pv 18)) (da_cons (d_var (pv 3)) da_nil))))))))
 (dss_one (ds_ret d_bl))
 dss_nil)))
 dss_nil)
 (dss_cons (ds_tpar (ps_par (i := 20) (j := 21) rfl sc_law.nd rfl rfl (by decide) rfl rfl (dv_of (da_cons (d_add rfl d_int (d_call rfl (ok__law_take T) (hr.mono (by decide)) rfl T.d__law_take.g T.d__law_take.F.kp T.d__law_take.b (takes_of rfl rfl rfl rfl) (da_cons (d_var (pv 1)) (da_cons d_int da_nil)))) (da_cons (d_call rfl (ok__law_take T) (hr.mono (by decide)) rfl T.d__law_take.g T.d__law_take.F.kp T.d__law_take.b (takes_of rfl rfl rfl rfl) (da_cons (d_var (pv 1)) (da_cons d_int da_nil))) da_nil))) (by rfl)))
 (dss_cons (ds_if (dt_w (dw_or (dcT (d_lt (d_var (pv 2)) d_int)) (dw_or1 (dcT (d_lt (d_var (pv 20)) d_int)))))
 (dss_cons (ds_set (ps_set (i := 22) sc_law.nd rfl (.inl rfl) (d_add rfl (d_lst (da_cons d_int da_nil)) (d_mul (d_lst (da_cons d_int da_nil)) (d_sub (d_var (pv 2)) d_int)))))
 (dss_cons (ds_for (passes_of rfl) rfl (di_ran1 (by rfl) T.b_range (da_cons (d_var (pv 20)) da_nil)) (dg_name (pg_name (i := 10) sc_law.nd rfl (.inl rfl)))
 (dss_cons (ds_setO (ps_set (i := 23) sc_law.nd rfl (.inl rfl) (o_rep (d_lst (da_cons d_int da_nil)) (d_var (pv 2)))))
 (dss_cons (ds_for (passes_of rfl) rfl (di_ran1 (by rfl) T.b_range (da_cons (d_var (pv 2)) da_nil)) (dg_name (pg_name (i := 4) sc_law.nd rfl (.inr rfl)))
 (dss_one (ds_for (passes_of rfl) rfl (di_ran1 (by rfl) T.b_range (da_cons (d_var (pv 2)) da_nil)) (dg_name (pg_name (i := 24) sc_law.nd rfl (.inl rfl)))
 (dss_one (ds_setIx (i := 23) (ps_asg (d_add rfl (d_ixA rfl (pe_ix ix_seq (pv 23) (d_mod (d_callT call_int1 kl_int rfl T.b_int (by decide +kernel) (da_cons (d_add rfl (d_var (pv 4)) (d_mul (d_var (pv 24)) (d_var (pv 24)))) da_nil)) (d_var (pv 2))) (fun _ _ => rfl))) (d_ix rfl (d_var (pv 22)) (d_var (pv 4)))) (pg_sub (pv 23) (d_mod (d_callT call_int1 kl_int rfl T.b_int (by decide +kernel) (da_cons (d_add rfl (d_var (pv 4)) (d_mul (d_var (pv 24)) (d_var (pv 24)))) da_nil)) (d_var (pv 2))) set_list)))))))
 (dss_frz (i := 23) (dss_one (ds_set (ps_set (i := 22) sc_law.nd rfl (.inl rfl) (d_var (pv 23)))))))))
 (dss_one (ds_if (dcT (d_ne rfl (hu65 hr) (d_call rfl (ok_many_sums T) (hr.mono (by decide)) rfl T.d_many_sums.g T.d_many_sums.F.kp T.d_many_sums.b (takes_of rfl rfl rfl rfl) (da_cons (d_var (pv 2)) (da_cons (d_var (pv 20)) (da_cons (d_var (pv 21)) da_nil)))) (d_ix rfl (d_var (pv 22)) (d_mod (d_callT call_int1 kl_int rfl T.b_int (by decide +kernel) (da_cons (d_var (pv 21)) da_nil)) (d_var (pv 2))))))
 (dss_one (ds_ret d_bl))
 dss_nil))))
 dss_nil)
 (dss_one (ds_ret (dcE (d_eq rfl (hu65 hr) (d_ofO (o_lc (own := [("each", 25)]) rfl sc_law.nd (di_seq rfl (d_tup (da_cons d_int (da_cons d_int (da_cons d_int (da_cons d_int (da_cons d_int (da_cons d_int da_nil)))))))) (blkOk_by (N := nm_law) (sc := defScope s_law) (by decide +kernel)) (by decide) (fun _ _ _ _ _ => (dg_name (pg_name (i := 25) sc_law.nd rfl (.inl rfl)))) (fun _ _ _ _ _ => dts_nil) (fun _ _ _ _ _ => (d_call rfl (ok__law_word T) (hr.mono (by decide)) rfl T.d__law_word.g T.d__law_word.F.kp T.d__law_word.b takes0 (da_cons (d_var (pv 25)) da_nil))))) (d_add rfl (d_mul (d_lst (da_cons d_str da_nil)) d_int) (d_lst (da_cons d_str (da_cons d_str da_nil)))))))))))))))))))))))))))))))))))))))))), law_go rfl hS hl h4 rfl hm⟩
end K19
namespace DL
open PySem
open PySem.Spec
open PyProof.Rows
open L2
def spc : SV → Bool
  | .ex _ => true
  | .odc _ => true
  | _ => false
def Ag (m : List Nat) (ρ ρ' : RS) : Prop := ρ.length = ρ'.length ∧ (∀ i ∈ m, ρ[i]? = ρ'[i]?) ∧ ∀ (i : Nat) (x : SV), ρ[i]? = some x → spc x = true → ρ'[i]? = some x
def Sub (m m' : List Nat) : Prop := ∀ i ∈ m, i ∈ m'
instance (m m' : List Nat) : Decidable (Sub m m') := inferInstanceAs (Decidable (∀ i ∈ m, i ∈ m'))
theorem Ag.sub {m m' : List Nat} {ρ ρ' : RS} (h : Ag m' ρ ρ') (s : Sub m m') : Ag m ρ ρ' := ⟨h.1, fun i hi => h.2.1 i (s i hi), h.2.2⟩
theorem Ag.refl {m : List Nat} {ρ : RS} : Ag m ρ ρ := ⟨rfl, fun _ _ => rfl, fun _ _ h _ => h⟩
theorem Ag.set {m : List Nat} {ρ ρ' : RS} (h : Ag m ρ ρ') (i : Nat) (x : SV) : Ag (i :: m) (ρ.set i x) (ρ'.set i x) := by
  refine ⟨by rw [List.length_set, List.length_set, h.1], fun j hj => ?_, fun j y hy hs => ?_⟩
  · by_cases e : i = j
    · subst e
      by_cases hl : i < ρ.length
      · rw [List.getElem?_set_self hl, List.getElem?_set_self (by rw [← h.1]; exact hl)]
      · rw [List.getElem?_eq_none (by rw [List.length_set]; omega), List.getElem?_eq_none (by rw [List.length_set, ← h.1]; omega)]
    · rw [List.getElem?_set_ne e, List.getElem?_set_ne e]
      rcases List.mem_cons.mp hj with z | z
      · exact absurd z.symm e
      · exact h.2.1 j z
  · by_cases e : i = j
    · subst e
      by_cases hl : i < ρ.length
      · rw [List.getElem?_set_self hl] at hy
        rw [List.getElem?_set_self (by rw [← h.1]; exact hl)]
        exact hy
      · rw [List.getElem?_eq_none (by rw [List.length_set]; omega)] at hy
        cases hy
    · rw [List.getElem?_set_ne e] at hy ⊢
      exact h.2.2 j y hy hs
theorem Ag.set' {m : List Nat} {ρ ρ' : RS} (h : Ag m ρ ρ') (i : Nat) (x : SV) : Ag m (ρ.set i x) (ρ'.set i x) := (h.set i x).sub fun _ hi => List.mem_cons_of_mem _ hi
theorem Ag.wipe {m : List Nat} {ρ ρ' : RS} (h : Ag m ρ ρ') : ∀ vs : List Nat, Ag (vs ++ m) (wipeR ρ vs) (wipeR ρ' vs)
  | [] => h
  | v :: vs => by
    have := (Ag.wipe h vs).set v .un
    exact this
theorem noEx_iff : ∀ {ρ : RS}, noEx ρ = true ↔ ∀ (i : Nat) (fs : List (Str × D)), ρ[i]? ≠ some (.ex fs)
  | [] => by simp [noEx]
  | .ex fs :: r => by
    refine ⟨fun h => (by cases h), fun h => absurd rfl (h 0 fs)⟩
  | .un :: r => ⟨fun h i fs => noEx_get h, fun h => (noEx_iff (ρ := r)).mpr fun i fs => h (i + 1) fs⟩
  | .d _ :: r => ⟨fun h i fs => noEx_get h, fun h => (noEx_iff (ρ := r)).mpr fun i fs => h (i + 1) fs⟩
  | .own _ :: r => ⟨fun h i fs => noEx_get h, fun h => (noEx_iff (ρ := r)).mpr fun i fs => h (i + 1) fs⟩
  | .odc _ :: r => ⟨fun h i fs => noEx_get h, fun h => (noEx_iff (ρ := r)).mpr fun i fs => h (i + 1) fs⟩
theorem noOdc_iff : ∀ {ρ : RS}, noOdc ρ = true ↔ ∀ (i : Nat) (fs : DK), ρ[i]? ≠ some (.odc fs)
  | [] => by simp [noOdc]
  | .odc fs :: r => by
    refine ⟨fun h => (by cases h), fun h => absurd rfl (h 0 fs)⟩
  | .un :: r => ⟨fun h i fs => noOdc_get h, fun h => (noOdc_iff (ρ := r)).mpr fun i fs => h (i + 1) fs⟩
  | .d _ :: r => ⟨fun h i fs => noOdc_get h, fun h => (noOdc_iff (ρ := r)).mpr fun i fs => h (i + 1) fs⟩
  | .own _ :: r => ⟨fun h i fs => noOdc_get h, fun h => (noOdc_iff (ρ := r)).mpr fun i fs => h (i + 1) fs⟩
  | .ex _ :: r => ⟨fun h i fs => noOdc_get h, fun h => (noOdc_iff (ρ := r)).mpr fun i fs => h (i + 1) fs⟩
theorem Ag.noEx {m : List Nat} {ρ ρ' : RS} (h : Ag m ρ ρ') (n : noEx ρ' = true) : DL.noEx ρ = true := noEx_iff.mpr fun i fs e => noEx_iff.mp n i fs (h.2.2 i _ e rfl)
theorem Ag.noOdc {m : List Nat} {ρ ρ' : RS} (h : Ag m ρ ρ') (n : noOdc ρ' = true) : DL.noOdc ρ = true := noOdc_iff.mpr fun i fs e => noOdc_iff.mp n i fs (h.2.2 i _ e rfl)
theorem Ag.sole {m : List Nat} {ρ ρ' : RS} (h : Ag m ρ ρ') {i : Nat} (n : sole ρ' i = true) : DL.sole ρ i = true := (h.set i .un).noOdc n
def OR {α : Type} (o o' : Out α) (g : G) : Prop := match o' with
  | .ok a _ => o = .ok a g
  | .exc n fs _ => o = .exc n fs g
  | .bad => True
abbrev FrO {α : Type} (m : List Nat) (f : RS → G → Out α) : Prop := ∀ (ρ ρ' : RS) (g g' : G), Ag m ρ ρ' → OR (f ρ g) (f ρ' g') g
theorem OR.bind {α β : Type} {o o' : Out α} {g : G} {k1 k2 : α → G → Out β} (h : OR o o' g) (k : ∀ a g', OR (k1 a g) (k2 a g') g) : OR (o.bind k1) (o'.bind k2) g := by
  cases o' with
  | ok a g' =>
    cases (show o = .ok a g from h)
    exact k a g'
  | exc n fs g' =>
    cases (show o = .exc n fs g from h)
    exact rfl
  | bad => exact trivial
abbrev GP2 (φ : D → D → G → Out D) : Prop := ∀ x y g g', OR (φ x y g) (φ x y g') g
abbrev GP1 (φ : List D → G → Out D) : Prop := ∀ x g g', OR (φ x g) (φ x g') g
theorem gp_add : GP2 opAdd := by intro x y g g'; unfold opAdd; split <;> (try split) <;> first | exact rfl | exact trivial
theorem gp_sub : GP2 opSub := by intro x y g g'; unfold opSub; split <;> (try split) <;> first | exact rfl | exact trivial
theorem gp_mul : GP2 opMul := by intro x y g g'; unfold opMul; split <;> (try split) <;> first | exact rfl | exact trivial
theorem gp_mulT : GP2 opMulT := by intro x y g g'; unfold opMulT; split <;> (try split) <;> first | exact rfl | exact trivial
theorem gp_div : GP2 opDiv := by intro x y g g'; unfold opDiv; split <;> (try split) <;> first | exact rfl | exact trivial
theorem gp_mod : GP2 opMod := by intro x y g g'; unfold opMod; split <;> (try split) <;> first | exact rfl | exact trivial
theorem gp_pow : GP2 opPow := by intro x y g g'; unfold opPow; split <;> (try split) <;> first | exact rfl | exact trivial
theorem gp_I {p : Int → Int → Bool} : GP2 (opI p) := by intro x y g g'; unfold opI; split <;> (try split) <;> first | exact rfl | exact trivial
theorem gp_eq : GP2 opEq := by intro x y g g'; unfold opEq; split <;> first | exact rfl | exact trivial
theorem gp_ne : GP2 opNe := by intro x y g g'; unfold opNe; split <;> first | exact rfl | exact trivial
theorem gp_isB : GP2 opIsB := by intro x y g g'; unfold opIsB; split <;> (try split) <;> first | exact rfl | exact trivial
theorem gp_notB : GP2 opNotB := by intro x y g g'; unfold opNotB; split <;> (try split) <;> first | exact rfl | exact trivial
theorem gp_in {b : Bool} : GP2 (opIn b) := by intro x y g g'; unfold opIn; split <;> (try split) <;> first | exact rfl | exact trivial
theorem gp_ix : GP2 opIx := by intro x y g g'; unfold opIx; split <;> (try split) <;> (try split) <;> first | exact rfl | exact trivial
theorem gp_eqD {b : Bool} : GP2 (opEqD b) := by intro x y g g'; unfold opEqD; split <;> (try split) <;> first | exact rfl | exact trivial
theorem gp_len : GP1 bLen := by intro x g g'; unfold bLen; split <;> (try split) <;> first | exact rfl | exact trivial
theorem gp_abs : GP1 bAbs := by intro x g g'; unfold bAbs; split <;> (try split) <;> first | exact rfl | exact trivial
theorem gp_int : GP1 bInt := by intro x g g'; unfold bInt; split <;> (try split) <;> first | exact rfl | exact trivial
theorem gp_sum : GP1 bSum := by intro x g g'; unfold bSum; split <;> (try split) <;> first | exact rfl | exact trivial
theorem gp_sumA : GP1 bSumA := by intro x g g'; unfold bSumA; split <;> (try split) <;> first | exact rfl | exact trivial
theorem gp_any : GP1 bAny := by intro x g g'; unfold bAny; split <;> (try split) <;> first | exact rfl | exact trivial
theorem gp_all : GP1 bAll := by intro x g g'; unfold bAll; split <;> (try split) <;> first | exact rfl | exact trivial
theorem gp_sorted : GP1 bSorted := by intro x g g'; unfold bSorted; split <;> (try split) <;> first | exact rfl | exact trivial
theorem gp_sortA : GP1 bSortA := by intro x g g'; unfold bSortA; split <;> (try split) <;> first | exact rfl | exact trivial
theorem gp_tuple : GP1 bTuple := by intro x g g'; unfold bTuple; split <;> (try split) <;> first | exact rfl | exact trivial
theorem gp_list : GP1 bList := by intro x g g'; unfold bList; split <;> (try split) <;> first | exact rfl | exact trivial
theorem gp_max2 : GP1 bMax2 := by intro x g g'; unfold bMax2; split <;> (try split) <;> first | exact rfl | exact trivial
theorem gp_min2 : GP1 bMin2 := by intro x g g'; unfold bMin2; split <;> (try split) <;> first | exact rfl | exact trivial
theorem gp_max : GP1 bMax := by intro x g g'; unfold bMax; split <;> (try split) <;> (try split) <;> first | exact rfl | exact trivial
theorem gp_min : GP1 bMin := by intro x g g'; unfold bMin; split <;> (try split) <;> (try split) <;> first | exact rfl | exact trivial
theorem gp_rng : GP1 bRng := by intro x g g'; unfold bRng; split <;> (try split) <;> first | exact rfl | exact trivial
section
variable {m : List Nat} {fa fb fc fe fj fo : EF} {t ta tb : TF} {fs : AF}
theorem fr_eV {i : Nat} (h : i ∈ m) : FrO m (eV i) := fun ρ ρ' g g' A => by
  unfold eV
  rw [A.2.1 i h]
  split <;> first | exact rfl | exact trivial
theorem fr_eC {d : D} : FrO m (eC d) := fun ρ ρ' g g' A => rfl
theorem fr_eBin {φ : D → D → G → Out D} (hφ : GP2 φ) (ha : FrO m fa) (hb : FrO m fb) : FrO m (eBin φ fa fb) := fun ρ ρ' g g' A => OR.bind (ha ρ ρ' g g' A) fun x g1 => OR.bind (hb ρ ρ' g g1 A) fun y g2 => hφ x y g g2
theorem fr_eNeg (ha : FrO m fa) : FrO m (eNeg fa) := fun ρ ρ' g g' A => OR.bind (ha ρ ρ' g g' A) fun x g1 => by cases x <;> first | exact rfl | exact trivial
theorem fr_tVal (ha : FrO m fa) : FrO m (tVal fa) := fun ρ ρ' g g' A => OR.bind (ha ρ ρ' g g' A) fun x g1 => by cases x <;> first | exact rfl | exact trivial
theorem fr_eIsN (ha : FrO m fa) : FrO m (eIsN fa) := fun ρ ρ' g g' A => OR.bind (ha ρ ρ' g g' A) fun x g1 => rfl
theorem fr_eNotN (ha : FrO m fa) : FrO m (eNotN fa) := fun ρ ρ' g g' A => OR.bind (ha ρ ρ' g g' A) fun x g1 => rfl
theorem OR.ite {α : Type} {p : Prop} [Decidable p] {a b a' b' : Out α} {g : G} (h1 : OR a a' g) (h2 : OR b b' g) : OR (if p then a else b) (if p then a' else b') g := by split <;> assumption
theorem fr_eChain {p q : Int → Int → Bool} (ha : FrO m fa) (hb : FrO m fb) (hc : FrO m fc) : FrO m (eChain p q fa fb fc) := fun ρ ρ' g g' A => OR.bind (ha ρ ρ' g g' A) fun x g1 => OR.bind (hb ρ ρ' g g1 A) fun y g2 => by
  cases x with
  | int i => cases y with
    | int j => exact OR.ite (OR.bind (hc ρ ρ' g g2 A) fun z g3 => by cases z <;> first | exact rfl | exact trivial) rfl
    | _ => exact trivial
  | _ => exact trivial
theorem fr_tAndF (ha : FrO m ta) (hb : FrO m tb) : FrO m (tAndF ta tb) := fun ρ ρ' g g' A => OR.bind (ha ρ ρ' g g' A) fun x g1 => OR.ite (hb ρ ρ' g g1 A) rfl
theorem fr_tOrF (ha : FrO m ta) (hb : FrO m tb) : FrO m (tOrF ta tb) := fun ρ ρ' g g' A => OR.bind (ha ρ ρ' g g' A) fun x g1 => OR.ite rfl (hb ρ ρ' g g1 A)
theorem fr_tNotF (ha : FrO m ta) : FrO m (tNotF ta) := fun ρ ρ' g g' A => OR.bind (ha ρ ρ' g g' A) fun x g1 => rfl
theorem fr_tTru (ha : FrO m fa) : FrO m (tTru fa) := fun ρ ρ' g g' A => OR.bind (ha ρ ρ' g g' A) fun x g1 => by
  cases truD x <;> first | exact rfl | exact trivial
theorem fr_eAnd (ha : FrO m fa) (hb : FrO m fb) : FrO m (eAnd fa fb) := fun ρ ρ' g g' A => OR.bind (ha ρ ρ' g g' A) fun x g1 => by
  cases x with
  | bool k => exact OR.ite (hb ρ ρ' g g1 A) rfl
  | _ => exact trivial
theorem fr_eOr (ha : FrO m fa) (hb : FrO m fb) : FrO m (eOr fa fb) := fun ρ ρ' g g' A => OR.bind (ha ρ ρ' g g' A) fun x g1 => by
  cases x with
  | bool k => exact OR.ite rfl (hb ρ ρ' g g1 A)
  | _ => exact trivial
theorem fr_eNot (ha : FrO m fa) : FrO m (eNot fa) := fun ρ ρ' g g' A => OR.bind (ha ρ ρ' g g' A) fun x g1 => by cases x <;> first | exact rfl | exact trivial
theorem fr_eIf (ht : FrO m t) (ha : FrO m fa) (hb : FrO m fb) : FrO m (eIf t fa fb) := fun ρ ρ' g g' A => OR.bind (ht ρ ρ' g g' A) fun x g1 => OR.ite (ha ρ ρ' g g1 A) (hb ρ ρ' g g1 A)
theorem fr_tIfF {a b : TF} (ht : FrO m t) (ha : FrO m a) (hb : FrO m b) : FrO m (tIfF t a b) := fun ρ ρ' g g' A => OR.bind (ht ρ ρ' g g' A) fun x g1 => OR.ite (ha ρ ρ' g g1 A) (hb ρ ρ' g g1 A)
theorem fr_aNil : FrO m aNil := fun ρ ρ' g g' A => rfl
theorem fr_aCons (ha : FrO m fe) (hb : FrO m fs) : FrO m (aCons fe fs) := fun ρ ρ' g g' A => OR.bind (ha ρ ρ' g g' A) fun x g1 => OR.bind (hb ρ ρ' g g1 A) fun y g2 => rfl
theorem fr_eTup (ha : FrO m fs) : FrO m (eTup fs) := fun ρ ρ' g g' A => OR.bind (ha ρ ρ' g g' A) fun x g1 => OR.ite rfl trivial
theorem fr_eLst (ha : FrO m fs) : FrO m (eLst fs) := fun ρ ρ' g g' A => OR.bind (ha ρ ρ' g g' A) fun x g1 => OR.ite rfl trivial
theorem fr_oNone : FrO m oNone := fun ρ ρ' g g' A => rfl
theorem fr_oSome (ha : FrO m fe) : FrO m (oSome fe) := fun ρ ρ' g g' A => OR.bind (ha ρ ρ' g g' A) fun x g1 => by cases x <;> first | exact rfl | exact trivial
theorem fr_eSl {fl fh : OF} (ha : FrO m fa) (hb : FrO m fl) (hc : FrO m fh) : FrO m (eSl fa fl fh) := fun ρ ρ' g g' A => OR.bind (ha ρ ρ' g g' A) fun x g1 => OR.bind (hb ρ ρ' g g1 A) fun y g2 => OR.bind (hc ρ ρ' g g2 A) fun z g3 => by cases x <;> first | exact rfl | exact trivial
theorem fr_eCall {φ : List D → G → Out D} (hφ : GP1 φ) (ha : FrO m fs) : FrO m (eCall φ fs) := fun ρ ρ' g g' A => OR.bind (ha ρ ρ' g g' A) fun x g1 => hφ x g g1
theorem fr_iLst (ha : FrO m fe) : FrO m (iLst fe) := fun ρ ρ' g g' A => OR.bind (ha ρ ρ' g g' A) fun x g1 => by cases x <;> first | exact rfl | exact trivial
theorem fr_iTpl (ha : FrO m fe) : FrO m (iTpl fe) := fun ρ ρ' g g' A => OR.bind (ha ρ ρ' g g' A) fun x g1 => by cases x <;> first | exact rfl | exact trivial
theorem fr_iSeq (ha : FrO m fe) : FrO m (iSeq fe) := fun ρ ρ' g g' A => OR.bind (ha ρ ρ' g g' A) fun x g1 => by cases x <;> first | exact rfl | exact trivial
theorem fr_iRngV (ha : FrO m fe) : FrO m (iRngV fe) := fun ρ ρ' g g' A => OR.bind (ha ρ ρ' g g' A) fun x g1 => by
  cases asRng x with
  | none => exact trivial
  | some p => exact OR.ite rfl trivial
theorem fr_iRan1 (ha : FrO m fs) : FrO m (iRan1 fs) := fun ρ ρ' g g' A => OR.bind (ha ρ ρ' g g' A) fun x g1 => by
  split
  · exact OR.ite rfl trivial
  · exact trivial
theorem fr_iRan2 (ha : FrO m fs) : FrO m (iRan2 fs) := fun ρ ρ' g g' A => OR.bind (ha ρ ρ' g g' A) fun x g1 => by
  split
  · exact OR.ite rfl trivial
  · exact trivial
theorem fr_eOf {f : OF'} (ha : FrO m f) : FrO m (eOf f) := fun ρ ρ' g g' A => OR.bind (ha ρ ρ' g g' A) fun x g1 => rfl
theorem fr_oLst (ha : FrO m fs) : FrO m (oLst fs) := fun ρ ρ' g g' A => OR.bind (ha ρ ρ' g g' A) fun x g1 => OR.ite rfl trivial
theorem fr_oCat (ha : FrO m fa) (hb : FrO m fb) : FrO m (oCat fa fb) := fun ρ ρ' g g' A => OR.bind (ha ρ ρ' g g' A) fun x g1 => OR.bind (hb ρ ρ' g g1 A) fun y g2 => by
  split
  · exact OR.ite rfl trivial
  · exact trivial
theorem fr_oRep (ha : FrO m fa) (hb : FrO m fb) : FrO m (oRep fa fb) := fun ρ ρ' g g' A => OR.bind (ha ρ ρ' g g' A) fun x g1 => OR.bind (hb ρ ρ' g g1 A) fun y g2 => by
  split
  · exact OR.ite rfl trivial
  · exact trivial
theorem fr_oSl {fl fh : OF} (ha : FrO m fa) (hb : FrO m fl) (hc : FrO m fh) : FrO m (oSl fa fl fh) := fun ρ ρ' g g' A => OR.bind (ha ρ ρ' g g' A) fun x g1 => OR.bind (hb ρ ρ' g g1 A) fun y g2 => OR.bind (hc ρ ρ' g g2 A) fun z g3 => by cases x <;> first | exact rfl | exact trivial
theorem fr_oList (ha : FrO m fs) : FrO m (oList fs) := fun ρ ρ' g g' A => OR.bind (ha ρ ρ' g g' A) fun x g1 => by
  split <;> first | exact rfl | exact trivial
theorem fr_tYesF : FrO m tYesF := fun ρ ρ' g g' A => rfl
theorem fr_eIxO {i : Nat} (h : i ∈ m) (ha : FrO m fj) : FrO m (eIxO i fj) := fun ρ ρ' g g' A => by
  unfold eIxO
  rw [A.2.1 i h]
  split
  · refine OR.bind (ha ρ ρ' g g' A) fun x g1 => ?_
    split
    · split <;> first | exact rfl | exact trivial
    · exact trivial
  · exact trivial
theorem fr_eLenO {i : Nat} (h : i ∈ m) : FrO m (eLenO i) := fun ρ ρ' g g' A => by
  unfold eLenO
  rw [A.2.1 i h]
  split <;> first | exact rfl | exact trivial
theorem fr_eIxA {i : Nat} (h : i ∈ m) (ha : FrO m fj) : FrO m (eIxA i fj) := fun ρ ρ' g g' A => by
  unfold eIxA
  rw [A.2.1 i h]
  split
  · exact OR.bind (ha ρ ρ' g g' A) fun x g1 => gp_ix _ _ g g1
  · exact fr_eIxO h ha ρ ρ' g g' A
theorem fr_eLenA {i : Nat} (h : i ∈ m) : FrO m (eLenA i) := fun ρ ρ' g g' A => by
  unfold eLenA
  rw [A.2.1 i h]
  split
  · exact rfl
  · exact fr_eLenO h ρ ρ' g g' A
theorem fr_vOf (ha : FrO m fs) : FrO m (vOf fs) := fun ρ ρ' g g' A => OR.bind (ha ρ ρ' g g' A) fun x g1 => rfl
theorem fr_vCons {fv : VF} (ha : FrO m fe) (hb : FrO m fv) : FrO m (vCons fe fv) := fun ρ ρ' g g' A => OR.bind (ha ρ ρ' g g' A) fun x g1 => OR.bind (hb ρ ρ' g g1 A) fun y g2 => rfl
theorem fr_vOwn {f : OF'} (ha : FrO m f) (hb : FrO m fs) : FrO m (vOwn f fs) := fun ρ ρ' g g' A => OR.bind (ha ρ ρ' g g' A) fun x g1 => OR.bind (hb ρ ρ' g g1 A) fun y g2 => rfl
theorem fr_vOwn2 {f f2 : OF'} (ha : FrO m f) (hb : FrO m f2) (hc : FrO m fs) : FrO m (vOwn2 f f2 fs) := fun ρ ρ' g g' A => OR.bind (ha ρ ρ' g g' A) fun x g1 => OR.bind (fr_vOwn hb hc ρ ρ' g g1 A) fun y g2 => rfl
theorem fr_vOwnD (ha : FrO m fs) : FrO m (vOwnD fs) := fun ρ ρ' g g' A => OR.bind (ha ρ ρ' g g' A) fun x g1 => rfl
theorem fr_eExF {i : Nat} {f : Str} (h : i ∈ m) : FrO m (eExF i f) := fun ρ ρ' g g' A => by
  unfold eExF
  rw [A.2.1 i h]
  split
  · split <;> first | exact rfl | exact trivial
  · exact trivial
theorem fr_eRev (ha : FrO m fa) : FrO m (eRev fa) := fun ρ ρ' g g' A => OR.bind (ha ρ ρ' g g' A) fun x g1 => by cases x <;> first | exact rfl | exact trivial
theorem fr_eRevA (ha : FrO m fa) : FrO m (eRevA fa) := fun ρ ρ' g g' A => OR.bind (ha ρ ρ' g g' A) fun x g1 => by cases x <;> first | exact rfl | exact trivial
theorem fr_eRevF (ha : FrO m fa) (hb : FrO m fb) : FrO m (eRevF fa fb) := fun ρ ρ' g g' A => OR.bind (ha ρ ρ' g g' A) fun x g1 => by
  cases x with
  | list xs => exact OR.bind (hb ρ ρ' g g1 A) fun y g2 => by cases y <;> first | exact rfl | exact trivial
  | _ => exact trivial
theorem fr_eIsi {T : String} (ha : FrO m fe) : FrO m (eIsi T fe) := fun ρ ρ' g g' A => OR.bind (ha ρ ρ' g g' A) fun x g1 => by
  cases isiD T x <;> first | exact rfl | exact trivial
theorem fr_eIndex (ha : FrO m fo) (hb : FrO m fe) : FrO m (eIndex fo fe) := fun ρ ρ' g g' A => OR.bind (ha ρ ρ' g g' A) fun x g1 => by
  cases x with
  | list xs =>
    refine OR.bind (hb ρ ρ' g g1 A) fun y g2 => ?_
    split
    · split <;> first | exact rfl | exact trivial
    · exact trivial
  | _ => exact trivial
theorem fr_pNil : FrO m pNil := fun ρ ρ' g g' A => rfl
theorem fr_pCons {f : PF} (ha : FrO m fs) (hb : FrO m fe) (hc : FrO m f) : FrO m (pCons fs fe f) := fun ρ ρ' g g' A => OR.bind (ha ρ ρ' g g' A) fun x g1 => by
  cases asInts x with
  | none => exact trivial
  | some k => exact OR.ite (OR.bind (hb ρ ρ' g g1 A) fun y g2 => by
      cases y with
      | int n => exact OR.bind (hc ρ ρ' g g2 A) fun z g3 => rfl
      | _ => exact trivial) trivial
theorem fr_eDisp {f : PF} (ha : FrO m f) : FrO m (eDisp f) := fun ρ ρ' g g' A => OR.bind (ha ρ ρ' g g' A) fun x g1 => OR.ite rfl trivial
end
def BR (m : List Nat) (o o' : Option RS) : Prop := match o' with
  | some ρ' => ∃ ρ, o = some ρ ∧ Ag m ρ ρ'
  | none => True
abbrev FrB (m m' : List Nat) (b : BF) : Prop := ∀ (x : D) (ρ ρ' : RS), Ag m ρ ρ' → BR m' (b x ρ) (b x ρ')
abbrev FrBs (m m' : List Nat) (b : List D → RS → Option RS) : Prop := ∀ (x : List D) (ρ ρ' : RS), Ag m ρ ρ' → BR m' (b x ρ) (b x ρ')
section
variable {m m1 m2 : List Nat}
theorem fr_bName {i : Nat} : FrB m (i :: m) (bName i) := fun x ρ ρ' A => ⟨_, rfl, A.set i _⟩
theorem fr_bNil : FrBs m m bNil := fun x ρ ρ' A => by
  cases x with
  | nil => exact ⟨_, rfl, A⟩
  | cons _ _ => exact trivial
theorem fr_bCons {b : BF} {bs : List D → RS → Option RS} (h1 : FrB m m1 b) (h2 : FrBs m1 m2 bs) : FrBs m m2 (bCons b bs) := fun x ρ ρ' A => by
  cases x with
  | nil => exact trivial
  | cons y r =>
    show BR m2 ((b y ρ).bind fun ρ1 => bs r ρ1) ((b y ρ').bind fun ρ1 => bs r ρ1)
    have h := h1 y ρ ρ' A
    cases q : b y ρ' with
    | none => exact trivial
    | some ρ1' =>
      rw [q] at h
      obtain ⟨ρ1, e, A1⟩ := (show ∃ ρ1, b y ρ = some ρ1 ∧ Ag m1 ρ1 ρ1' from h)
      rw [e]
      exact h2 r ρ1 ρ1' A1
theorem fr_bTup {n : Nat} {bs : List D → RS → Option RS} (h : FrBs m m1 bs) : FrB m m1 (bTup n bs) := fun x ρ ρ' A => by
  cases x with
  | tuple xs =>
    show BR m1 (if xs.length = n then bs xs ρ else none) (if xs.length = n then bs xs ρ' else none)
    split
    · exact h xs ρ ρ' A
    · exact trivial
  | _ => exact trivial
theorem fr_bUnl {n : Nat} {bs : List D → RS → Option RS} (h : FrBs m m1 bs) : FrB m m1 (bUnl n bs) := fun x ρ ρ' A => by
  cases x with
  | list xs =>
    show BR m1 (if xs.length = n then bs xs ρ else none) (if xs.length = n then bs xs ρ' else none)
    split
    · exact h xs ρ ρ' A
    · exact trivial
  | _ => exact trivial
theorem fr_compF {b : BF} {ft : TF} {fe : EF} (hb : FrB m m1 b) (ht : FrO m1 ft) (he : FrO m1 fe) : ∀ (xs : List D) (ρ ρ' : RS) (g g' : G), Ag m ρ ρ' → OR (compF b ft fe ρ xs g) (compF b ft fe ρ' xs g') g
  | [], _, _, _, _, _ => rfl
  | x :: xs, ρ, ρ', g, g', A => by
    have h := hb x ρ ρ' A
    unfold compF
    cases q : b x ρ' with
    | none => exact trivial
    | some ρ1' =>
      rw [q] at h
      obtain ⟨ρ1, e, A1⟩ := (show ∃ ρ1, b x ρ = some ρ1 ∧ Ag m1 ρ1 ρ1' from h)
      simp only [e, q]
      have h1 := ht ρ1 ρ1' g g' A1
      cases q1 : ft ρ1' g' with
      | bad => simp only [q1]; exact trivial
      | exc n fs g1 => simp only [q1]; exact trivial
      | ok k g1 =>
        rw [q1] at h1
        have h1 : ft ρ1 g = .ok k g := h1
        simp only [q1, h1]
        cases k with
        | false => exact fr_compF hb ht he xs ρ ρ' g g1 A
        | true =>
          have h2 := he ρ1 ρ1' g g1 A1
          cases q2 : fe ρ1' g1 with
          | bad => simp only [q2]; exact trivial
          | exc n fs g2 => simp only [q2]; exact trivial
          | ok d g2 =>
            rw [q2] at h2
            have h2 : fe ρ1 g = .ok d g := h2
            simp only [q2, h2]
            exact OR.ite (OR.bind (fr_compF hb ht he xs ρ ρ' g g2 A) fun r g3 => rfl) trivial
theorem fr_oComp {vs : List Nat} {fi : LF} {b : BF} {ft : TF} {fe : EF} (hi : FrO m fi) (hb : FrB (vs ++ m) m1 b) (ht : FrO m1 ft) (he : FrO m1 fe) : FrO m (oComp vs fi b ft fe) := fun ρ ρ' g g' A =>
  OR.bind (hi ρ ρ' g g' A) fun items g1 => OR.ite (fr_compF hb ht he items _ _ g g1 (A.wipe vs)) trivial
theorem fr_compF2 {vs1 m3 : List Nat} {b b1 : BF} {ft ft1 : TF} {fi1 : LF} {fe : EF} (hb : FrB m m1 b) (ht : FrO m1 ft) (hi1 : FrO m1 fi1) (hb1 : FrB (vs1 ++ m1) m3 b1) (ht1 : FrO m3 ft1) (he : FrO m3 fe) :
    ∀ (xs : List D) (ρ ρ' : RS) (g g' : G), Ag m ρ ρ' → OR (compF2 vs1 b ft fi1 b1 ft1 fe ρ xs g) (compF2 vs1 b ft fi1 b1 ft1 fe ρ' xs g') g
  | [], _, _, _, _, _ => rfl
  | x :: xs, ρ, ρ', g, g', A => by
    have h := hb x ρ ρ' A
    unfold compF2
    cases q : b x ρ' with
    | none => exact trivial
    | some ρ1' =>
      rw [q] at h
      obtain ⟨ρ1, e, A1⟩ := (show ∃ ρ1, b x ρ = some ρ1 ∧ Ag m1 ρ1 ρ1' from h)
      simp only [e, q]
      have h1 := ht ρ1 ρ1' g g' A1
      cases q1 : ft ρ1' g' with
      | bad => simp only [q1]; exact trivial
      | exc n fs g1 => simp only [q1]; exact trivial
      | ok k g1 =>
        rw [q1] at h1
        have h1 : ft ρ1 g = .ok k g := h1
        simp only [q1, h1]
        cases k with
        | false => exact fr_compF2 hb ht hi1 hb1 ht1 he xs ρ ρ' g g1 A
        | true =>
          have h2 := hi1 ρ1 ρ1' g g1 A1
          cases q2 : fi1 ρ1' g1 with
          | bad => simp only [q2]; exact trivial
          | exc n fs g2 => simp only [q2]; exact trivial
          | ok items g2 =>
            rw [q2] at h2
            have h2 : fi1 ρ1 g = .ok items g := h2
            simp only [q2, h2]
            exact OR.bind (fr_compF hb1 ht1 he items _ _ g g2 (A1.wipe vs1)) fun r g3 => OR.bind (fr_compF2 hb ht hi1 hb1 ht1 he xs ρ ρ' g g3 A) fun r2 g4 => rfl
theorem fr_oComp2 {vs vs1 m3 : List Nat} {fi fi1 : LF} {b b1 : BF} {ft ft1 : TF} {fe : EF} (hi : FrO m fi) (hb : FrB (vs ++ m) m1 b) (ht : FrO m1 ft) (hi1 : FrO m1 fi1) (hb1 : FrB (vs1 ++ m1) m3 b1) (ht1 : FrO m3 ft1) (he : FrO m3 fe) : FrO m (oComp2 vs vs1 fi b ft fi1 b1 ft1 fe) := fun ρ ρ' g g' A =>
  OR.bind (hi ρ ρ' g g' A) fun items g1 => OR.bind (fr_compF2 hb ht hi1 hb1 ht1 he items _ _ g g1 (A.wipe vs)) fun r g2 => OR.ite rfl trivial
end
def SOr (m mx : List Nat) (o o' : SO) (g : G) : Prop := match o' with
  | .nx ρ' _ => ∃ ρ, o = .nx ρ g ∧ Ag m ρ ρ'
  | .rt d _ => o = .rt d g
  | .bk ρ' _ => ∃ ρ, o = .bk ρ g ∧ Ag mx ρ ρ'
  | .ct ρ' _ => ∃ ρ, o = .ct ρ g ∧ Ag mx ρ ρ'
  | .exc n fs ρ' _ => ∃ ρ, o = .exc n fs ρ g ∧ Ag mx ρ ρ'
  | .bad => True
abbrev FrS (m m' mx : List Nat) (f : SF) : Prop := ∀ (ρ ρ' : RS) (g g' : G), Ag m ρ ρ' → SOr m' mx (f ρ g) (f ρ' g') g
section
variable {m m' m1 m2 mx : List Nat} {fe fj : EF} {fs : AF} {f k : SF} {t : TF}
theorem SOr.sub {o o' : SO} {g : G} (h : SOr m' mx o o' g) (s : Sub m m') : SOr m mx o o' g := by
  cases o' with
  | nx ρ' g' => obtain ⟨ρ, e, A⟩ := h; exact ⟨ρ, e, A.sub s⟩
  | rt d g' => exact h
  | bk ρ' g' => exact h
  | ct ρ' g' => exact h
  | exc n fs ρ' g' => exact h
  | bad => exact trivial
theorem SOr.subx {o o' : SO} {g : G} (h : SOr m m' o o' g) (s : Sub mx m') : SOr m mx o o' g := by
  cases o' with
  | nx ρ' g' => exact h
  | rt d g' => exact h
  | bk ρ' g' => obtain ⟨ρ, e, A⟩ := h; exact ⟨ρ, e, A.sub s⟩
  | ct ρ' g' => obtain ⟨ρ, e, A⟩ := h; exact ⟨ρ, e, A.sub s⟩
  | exc n fs ρ' g' => obtain ⟨ρ, e, A⟩ := h; exact ⟨ρ, e, A.sub s⟩
  | bad => exact trivial
theorem fr_weak (h : FrS m m1 mx f) (s : Sub m' m1) : FrS m m' mx f := fun ρ ρ' g g' A => (h ρ ρ' g g' A).sub s
theorem OR.go {α : Type} {o o' : Out α} {g : G} {ρ ρ' : RS} {k1 k2 : α → G → SO} (h : OR o o' g) (A : Ag m ρ ρ') (s : Sub mx m) (k : ∀ a g', SOr m' mx (k1 a g) (k2 a g') g) : SOr m' mx (o.go ρ k1) (o'.go ρ' k2) g := by
  cases o' with
  | ok a g' =>
    cases (show o = .ok a g from h)
    exact k a g'
  | exc n fs g' =>
    cases (show o = .exc n fs g from h)
    exact ⟨ρ, rfl, A.sub s⟩
  | bad => exact trivial
theorem SOr.ite {p : Prop} [Decidable p] {a b a' b' : SO} {g : G} (h1 : SOr m mx a a' g) (h2 : SOr m mx b b' g) : SOr m mx (if p then a else b) (if p then a' else b') g := by split <;> assumption
theorem fr_sNil : FrS m m mx sNil := fun ρ ρ' g g' A => ⟨ρ, rfl, A⟩
theorem fr_sBrk (s : Sub mx m) : FrS m m mx sBrk := fun ρ ρ' g g' A => ⟨ρ, rfl, A.sub s⟩
theorem fr_sCnt (s : Sub mx m) : FrS m m mx sCnt := fun ρ ρ' g g' A => ⟨ρ, rfl, A.sub s⟩
theorem fr_sSeq (h1 : FrS m m1 mx f) (h2 : FrS m1 m2 mx k) : FrS m m2 mx (sSeq f k) := fun ρ ρ' g g' A => by
  have h := h1 ρ ρ' g g' A
  unfold sSeq
  cases q : f ρ' g' with
  | nx ρ1' g1 =>
    rw [q] at h
    obtain ⟨ρ1, e, A1⟩ := h
    rw [e]
    exact h2 ρ1 ρ1' g g1 A1
  | rt d g1 => rw [q] at h; rw [show f ρ g = .rt d g from h]; exact rfl
  | bk ρ1' g1 => rw [q] at h; obtain ⟨ρ1, e, A1⟩ := h; rw [e]; exact ⟨ρ1, rfl, A1⟩
  | ct ρ1' g1 => rw [q] at h; obtain ⟨ρ1, e, A1⟩ := h; rw [e]; exact ⟨ρ1, rfl, A1⟩
  | exc n fs ρ1' g1 => rw [q] at h; obtain ⟨ρ1, e, A1⟩ := h; rw [e]; exact ⟨ρ1, rfl, A1⟩
  | bad => exact trivial
theorem fr_sExpr (he : FrO m fe) (s : Sub mx m) : FrS m m mx (sExpr fe) := fun ρ ρ' g g' A => OR.go (he ρ ρ' g g' A) A s fun a g1 => ⟨ρ, rfl, A⟩
theorem fr_sRet (he : FrO m fe) (s : Sub mx m) : FrS m m mx (sRet fe) := fun ρ ρ' g g' A => OR.go (he ρ ρ' g g' A) A s fun a g1 => rfl
theorem fr_sRetN : FrS m m mx sRetN := fun ρ ρ' g g' A => rfl
theorem fr_sIf (ht : FrO m t) (s : Sub mx m) (h1 : FrS m m1 mx f) (s1 : Sub m m1) (h2 : FrS m m2 mx k) (s2 : Sub m m2) : FrS m m mx (sIf t f k) := fun ρ ρ' g g' A =>
  OR.go (ht ρ ρ' g g' A) A s fun b g1 => SOr.ite ((h1 ρ ρ' g g1 A).sub s1) ((h2 ρ ρ' g g1 A).sub s2)
theorem fr_sSet {i : Nat} (he : FrO m fe) (s : Sub mx m) : FrS m (i :: m) mx (sSet i fe) := fun ρ ρ' g g' A => OR.go (he ρ ρ' g g' A) A s fun a g1 => ⟨_, rfl, A.set i _⟩
theorem fr_sSetO {i : Nat} {fo : OF'} (he : FrO m fo) (s : Sub mx m) : FrS m (i :: m) mx (sSetO i fo) := fun ρ ρ' g g' A => OR.go (he ρ ρ' g g' A) A s fun a g1 => ⟨_, rfl, A.set i _⟩
theorem fr_sNewD {i : Nat} : FrS m (i :: m) mx (sNewD i) := fun ρ ρ' g g' A => ⟨_, rfl, A.set i _⟩
theorem fr_sAsg {b : BF} (he : FrO m fe) (s : Sub mx m) (hb : FrB m m1 b) : FrS m m1 mx (sAsg b fe) := fun ρ ρ' g g' A => OR.go (he ρ ρ' g g' A) A s fun a g1 => by
  have h := hb a ρ ρ' A
  cases q : b a ρ' with
  | none => simp only [q]; exact trivial
  | some ρ1' =>
    rw [q] at h
    obtain ⟨ρ1, e, A1⟩ := (show ∃ ρ1, b a ρ = some ρ1 ∧ Ag m1 ρ1 ρ1' from h)
    simp only [q, e]
    exact ⟨ρ1, rfl, A1⟩
theorem fr_sAug {i : Nat} {φ : Int → Int → Int} (h : i ∈ m) (he : FrO m fe) (s : Sub mx m) : FrS m m mx (sAug i φ fe) := fun ρ ρ' g g' A => by
  unfold sAug
  rw [A.2.1 i h]
  split
  · refine OR.go (he ρ ρ' g g' A) A s fun a g1 => ?_
    split
    · exact ⟨_, rfl, A.set' i _⟩
    · exact trivial
  · exact trivial
theorem fr_sApp {i : Nat} (h : i ∈ m) (he : FrO m fe) (s : Sub mx m) : FrS m m mx (sApp i fe) := fun ρ ρ' g g' A => by
  unfold sApp
  rw [A.2.1 i h]
  split
  · exact OR.go (he ρ ρ' g g' A) A s fun a g1 => SOr.ite ⟨_, rfl, A.set' i _⟩ trivial
  · exact trivial
theorem fr_sExt {i : Nat} (h : i ∈ m) (he : FrO m fe) (s : Sub mx m) : FrS m m mx (sExt i fe) := fun ρ ρ' g g' A => by
  unfold sExt
  rw [A.2.1 i h]
  split
  · refine OR.go (he ρ ρ' g g' A) A s fun a g1 => ?_
    split
    · exact SOr.ite ⟨_, rfl, A.set' i _⟩ trivial
    · exact trivial
  · exact trivial
theorem fr_sSetIx {i : Nat} (h : i ∈ m) (he : FrO m fe) (hj : FrO m fj) (s : Sub mx m) : FrS m m mx (sSetIx i fe fj) := fun ρ ρ' g g' A => by
  unfold sSetIx
  rw [A.2.1 i h]
  split
  · refine OR.go (he ρ ρ' g g' A) A s fun a g1 => OR.go (hj ρ ρ' g g1 A) A s fun j g2 => ?_
    split
    · split
      · exact SOr.ite ⟨_, rfl, A.set' i _⟩ trivial
      · exact trivial
    · exact trivial
  · exact trivial
theorem fr_sAugIx {i : Nat} {φ : Int → Int → Int} (h : i ∈ m) (hj : FrO m fj) (he : FrO m fe) (s : Sub mx m) : FrS m m mx (sAugIx i φ fj fe) := fun ρ ρ' g g' A => by
  unfold sAugIx
  rw [A.2.1 i h]
  split
  · refine OR.go (hj ρ ρ' g g' A) A s fun a g1 => ?_
    split
    · split
      · split
        · refine OR.go (he ρ ρ' g g1 A) A s fun j g2 => ?_
          split
          · exact ⟨_, rfl, A.set' i _⟩
          · exact trivial
        · exact trivial
      · exact trivial
    · exact trivial
  · exact trivial
theorem fr_sPutD {i : Nat} (h : i ∈ m) (hk : FrO m fs) (he : FrO m fe) (s : Sub mx m) : FrS m m mx (sPutD i fs fe) := fun ρ ρ' g g' A => by
  unfold sPutD
  rw [A.2.1 i h]
  split
  · refine OR.go (he ρ ρ' g g' A) A s fun a g1 => OR.go (hk ρ ρ' g g1 A) A s fun ks g2 => ?_
    split
    · rename_i n k _
      by_cases q : sole ρ' i = true
      · rw [q, A.sole q]
        exact SOr.ite ⟨_, rfl, A.set' i _⟩ trivial
      · rw [if_neg (c := _ ∧ _ ∧ sole ρ' i = true) fun z => q z.2.2]
        exact trivial
    · exact trivial
  · exact trivial
theorem fr_sFrz {i : Nat} (h : i ∈ m) (hf : FrS m m' mx f) : FrS m m' mx (sFrz i f) := fun ρ ρ' g g' A => by
  unfold sFrz
  rw [A.2.1 i h]
  split
  · exact hf _ _ g g' (A.set' i _)
  · exact hf ρ ρ' g g' A
theorem fr_sFrzD {i : Nat} (h : i ∈ m) (hf : FrS m m' mx f) : FrS m m' mx (sFrzD i f) := fun ρ ρ' g g' A => by
  unfold sFrzD
  rw [A.2.1 i h]
  split
  · by_cases q : sole ρ' i = true
    · rw [if_pos q, if_pos (A.sole q)]
      exact hf _ _ g g' (A.set' i _)
    · rw [if_neg q]
      exact trivial
  · exact hf ρ ρ' g g' A
theorem Ag.setAll : ∀ {is : List Nat} {ss : List SV} {m : List Nat} {ρ ρ' : RS}, Ag m ρ ρ' → is.length = ss.length → Ag (is ++ m) (setAll ρ is ss) (setAll ρ' is ss)
  | [], [], _, _, _, A, _ => A
  | [], _ :: _, _, _, _, _, h => by cases h
  | i :: is, [], _, _, _, _, h => by cases h
  | i :: is, s :: ss, m, ρ, ρ', A, h => by
    have := Ag.setAll (is := is) (ss := ss) (A.set i s) (by simpa using h)
    refine this.sub fun j hj => ?_
    simp only [List.cons_append, List.mem_cons, List.mem_append] at hj ⊢
    rcases hj with h | h | h
    · exact .inr (.inl h)
    · exact .inl h
    · exact .inr (.inr h)
theorem fr_sTup {is : List Nat} {fv : VF} (he : FrO m fv) (s : Sub mx m) : FrS m (is ++ m) mx (sTup is fv) := fun ρ ρ' g g' A => OR.go (he ρ ρ' g g' A) A s fun ss g1 => by
  by_cases q : ss.length = is.length
  · rw [if_pos q, if_pos q]
    exact ⟨_, rfl, A.setAll q.symm⟩
  · rw [if_neg q, if_neg q]
    exact trivial
theorem fr_sRaise {n fld : Str} (he : FrO m fe) (s : Sub mx m) : FrS m m mx (sRaise n fld fe) := fun ρ ρ' g g' A => OR.go (he ρ ρ' g g' A) A s fun a g1 => by
  split
  · exact SOr.ite ⟨ρ, rfl, A.sub s⟩ trivial
  · exact trivial
theorem fr_forL {b : BF} (hb : FrB m m1 b) (hf : FrS m1 m2 m f) (s2 : Sub m m2) : ∀ (xs : List D) (ρ ρ' : RS) (g g' : G), Ag m ρ ρ' → SOr m m (forL b f xs ρ g) (forL b f xs ρ' g') g
  | [], ρ, _, _, _, A => ⟨ρ, rfl, A⟩
  | x :: xs, ρ, ρ', g, g', A => by
    have h := hb x ρ ρ' A
    unfold forL
    cases q : b x ρ' with
    | none => exact trivial
    | some ρ1' =>
      rw [q] at h
      obtain ⟨ρ1, e, A1⟩ := (show ∃ ρ1, b x ρ = some ρ1 ∧ Ag m1 ρ1 ρ1' from h)
      rw [e]
      have h1 := hf ρ1 ρ1' g g' A1
      cases q1 : f ρ1' g' with
      | nx ρ2' g2 =>
        rw [q1] at h1
        obtain ⟨ρ2, e2, A2⟩ := h1
        simp only [q1, e2]
        exact fr_forL hb hf s2 xs ρ2 ρ2' g g2 (A2.sub s2)
      | ct ρ2' g2 =>
        rw [q1] at h1
        obtain ⟨ρ2, e2, A2⟩ := h1
        simp only [q1, e2]
        exact fr_forL hb hf s2 xs ρ2 ρ2' g g2 A2
      | bk ρ2' g2 =>
        rw [q1] at h1
        obtain ⟨ρ2, e2, A2⟩ := h1
        simp only [q1, e2]
        exact ⟨ρ2, rfl, A2⟩
      | rt d g2 =>
        rw [q1] at h1
        simp only [q1, show f ρ1 g = .rt d g from h1]
        exact rfl
      | exc n fs ρ2' g2 =>
        rw [q1] at h1
        obtain ⟨ρ2, e2, A2⟩ := h1
        simp only [q1, e2]
        exact ⟨ρ2, rfl, A2⟩
      | bad => simp only [q1]; exact trivial
theorem fr_sFor {fi : LF} {b : BF} (hi : FrO m fi) (s : Sub mx m) (hb : FrB m m1 b) (hf : FrS m1 m2 m f) (s2 : Sub m m2) : FrS m m mx (sFor fi b f) := fun ρ ρ' g g' A =>
  OR.go (hi ρ ρ' g g' A) A s fun items g1 => (fr_forL hb hf s2 items ρ ρ' g g1 A).subx s
theorem fr_whileF (ht : FrO m t) (hf : FrS m m2 m f) (s2 : Sub m m2) : ∀ (n : Nat) (ρ ρ' : RS) (g g' : G), Ag m ρ ρ' → SOr m m (whileF t f n ρ g) (whileF t f n ρ' g') g
  | 0, _, _, _, _, _ => trivial
  | n + 1, ρ, ρ', g, g', A => by
    unfold whileF
    refine OR.go (mx := m) (ht ρ ρ' g g' A) A (fun _ h => h) fun k g1 => SOr.ite ?_ ⟨ρ, rfl, A⟩
    have h1 := hf ρ ρ' g g1 A
    cases q1 : f ρ' g1 with
    | nx ρ2' g2 =>
      rw [q1] at h1
      obtain ⟨ρ2, e2, A2⟩ := h1
      simp only [q1, e2]
      exact fr_whileF ht hf s2 n ρ2 ρ2' g g2 (A2.sub s2)
    | ct ρ2' g2 =>
      rw [q1] at h1
      obtain ⟨ρ2, e2, A2⟩ := h1
      simp only [q1, e2]
      exact fr_whileF ht hf s2 n ρ2 ρ2' g g2 A2
    | bk ρ2' g2 =>
      rw [q1] at h1
      obtain ⟨ρ2, e2, A2⟩ := h1
      simp only [q1, e2]
      exact ⟨ρ2, rfl, A2⟩
    | rt d g2 =>
      rw [q1] at h1
      simp only [q1, show f ρ g = .rt d g from h1]
      exact rfl
    | exc n fs ρ2' g2 =>
      rw [q1] at h1
      obtain ⟨ρ2, e2, A2⟩ := h1
      simp only [q1, e2]
      exact ⟨ρ2, rfl, A2⟩
    | bad => simp only [q1]; exact trivial
theorem fr_sWhile {n : Nat} (s : Sub mx m) (ht : FrO m t) (hf : FrS m m2 m f) (s2 : Sub m m2) : FrS m m mx (sWhile n t f) := fun ρ ρ' g g' A => (fr_whileF ht hf s2 n ρ ρ' g g' A).subx s
theorem fr_sTry {i : Nat} {n : Str} {fb fh : SF} (s : Sub mx m) (hb : FrS m m1 m fb) (s1 : Sub m m1) (hh : FrS (i :: m) m2 m fh) (s2 : Sub m m2) : FrS m m mx (sTry i n fb fh) := fun ρ ρ' g g' A => by
  have h := hb ρ ρ' g g' A
  unfold sTry
  cases q : fb ρ' g' with
  | nx ρ1' g1 => rw [q] at h; obtain ⟨ρ1, e, A1⟩ := h; rw [e]; exact ⟨ρ1, rfl, A1.sub s1⟩
  | rt d g1 => rw [q] at h; rw [show fb ρ g = .rt d g from h]; exact rfl
  | bk ρ1' g1 => rw [q] at h; obtain ⟨ρ1, e, A1⟩ := h; rw [e]; exact ⟨ρ1, rfl, A1.sub s⟩
  | ct ρ1' g1 => rw [q] at h; obtain ⟨ρ1, e, A1⟩ := h; rw [e]; exact ⟨ρ1, rfl, A1.sub s⟩
  | bad => exact trivial
  | exc k fs ρ1' g1 =>
    rw [q] at h
    obtain ⟨ρ1, e, A1⟩ := h
    rw [e]
    show SOr m mx (if k = n then _ else _) (if k = n then _ else _) g
    split
    · by_cases nx : noEx ρ1' = true
      · rw [if_pos nx, if_pos (A1.noEx nx)]
        have h2 := hh _ _ g g1 (A1.set i (.ex fs))
        cases q2 : fh (ρ1'.set i (.ex fs)) g1 with
        | nx ρ2' g2 =>
          rw [q2] at h2
          obtain ⟨ρ2, e2, A2⟩ := h2
          simp only [e2]
          by_cases ny : noEx (ρ2'.set i .un) = true
          · rw [if_pos ny, if_pos (((A2.sub s2).set' i _).noEx ny)]
            exact ⟨_, rfl, (A2.sub s2).set' i _⟩
          · rw [if_neg ny]; exact trivial
        | bk ρ2' g2 =>
          rw [q2] at h2
          obtain ⟨ρ2, e2, A2⟩ := h2
          simp only [e2]
          by_cases ny : noEx (ρ2'.set i .un) = true
          · rw [if_pos ny, if_pos ((A2.set' i _).noEx ny)]
            exact ⟨_, rfl, (A2.set' i _).sub s⟩
          · rw [if_neg ny]; exact trivial
        | ct ρ2' g2 =>
          rw [q2] at h2
          obtain ⟨ρ2, e2, A2⟩ := h2
          simp only [e2]
          by_cases ny : noEx (ρ2'.set i .un) = true
          · rw [if_pos ny, if_pos ((A2.set' i _).noEx ny)]
            exact ⟨_, rfl, (A2.set' i _).sub s⟩
          · rw [if_neg ny]; exact trivial
        | rt d g2 =>
          rw [q2] at h2
          simp only [show fh (ρ1.set i (.ex fs)) g = .rt d g from h2]
          exact rfl
        | exc _ _ _ _ => exact trivial
        | bad => exact trivial
      · rw [if_neg nx]; exact trivial
    · exact ⟨ρ1, rfl, A1.sub s⟩
theorem fr_hnd {i : Nat} {fh : SF} {m2 : List Nat} (s : Sub mx m) (hh : FrS (i :: m) m2 m fh) (s2 : Sub m m2) {fs : List (Str × D)} {ρ1 ρ1' : RS} {g g1 : G} (A1 : Ag m ρ1 ρ1') : SOr m mx (sHnd i fh fs ρ1 g) (sHnd i fh fs ρ1' g1) g := by
  unfold sHnd
  by_cases nx : noEx ρ1' = true
  · rw [if_pos nx, if_pos (A1.noEx nx)]
    have h2 := hh _ _ g g1 (A1.set i (.ex fs))
    cases q2 : fh (ρ1'.set i (.ex fs)) g1 with
    | nx ρ2' g2 =>
      rw [q2] at h2
      obtain ⟨ρ2, e2, A2⟩ := h2
      simp only [e2]
      by_cases ny : noEx (ρ2'.set i .un) = true
      · rw [if_pos ny, if_pos (((A2.sub s2).set' i _).noEx ny)]
        exact ⟨_, rfl, (A2.sub s2).set' i _⟩
      · rw [if_neg ny]; exact trivial
    | bk ρ2' g2 =>
      rw [q2] at h2
      obtain ⟨ρ2, e2, A2⟩ := h2
      simp only [e2]
      by_cases ny : noEx (ρ2'.set i .un) = true
      · rw [if_pos ny, if_pos ((A2.set' i _).noEx ny)]
        exact ⟨_, rfl, (A2.set' i _).sub s⟩
      · rw [if_neg ny]; exact trivial
    | ct ρ2' g2 =>
      rw [q2] at h2
      obtain ⟨ρ2, e2, A2⟩ := h2
      simp only [e2]
      by_cases ny : noEx (ρ2'.set i .un) = true
      · rw [if_pos ny, if_pos ((A2.set' i _).noEx ny)]
        exact ⟨_, rfl, (A2.set' i _).sub s⟩
      · rw [if_neg ny]; exact trivial
    | rt d g2 =>
      rw [q2] at h2
      simp only [show fh (ρ1.set i (.ex fs)) g = .rt d g from h2]
      exact rfl
    | exc _ _ _ _ => exact trivial
    | bad => exact trivial
  · rw [if_neg nx]; exact trivial
theorem fr_hndM : ∀ {l : List (Nat × Str × SF)} (s : Sub mx m) (hl : ∀ t ∈ l, ∃ m2, FrS (t.1 :: m) m2 m t.2.2 ∧ Sub m m2) {k : Str} {fs : List (Str × D)} {ρ1 ρ1' : RS} {g g1 : G} (A1 : Ag m ρ1 ρ1'), SOr m mx (hndM k fs ρ1 g l) (hndM k fs ρ1' g1 l) g
  | [], s, hl, k, fs, ρ1, ρ1', g, g1, A1 => ⟨ρ1, rfl, A1.sub s⟩
  | (i, n, fh) :: r, s, hl, k, fs, ρ1, ρ1', g, g1, A1 => by
    obtain ⟨m2, h1, h2⟩ := hl _ List.mem_cons_self
    show SOr m mx (if k = n then _ else _) (if k = n then _ else _) g
    split
    · exact fr_hnd s h1 h2 A1
    · exact fr_hndM s (fun t ht => hl t (List.mem_cons_of_mem _ ht)) A1
theorem fr_sTryM {fb : SF} {l : List (Nat × Str × SF)} (s : Sub mx m) (hb : FrS m m1 m fb) (s1 : Sub m m1) (hl : ∀ t ∈ l, ∃ m2, FrS (t.1 :: m) m2 m t.2.2 ∧ Sub m m2) : FrS m m mx (sTryM fb l) := fun ρ ρ' g g' A => by
  have h := hb ρ ρ' g g' A
  unfold sTryM
  cases q : fb ρ' g' with
  | nx ρ1' g1 => rw [q] at h; obtain ⟨ρ1, e, A1⟩ := h; rw [e]; exact ⟨ρ1, rfl, A1.sub s1⟩
  | rt d g1 => rw [q] at h; rw [show fb ρ g = .rt d g from h]; exact rfl
  | bk ρ1' g1 => rw [q] at h; obtain ⟨ρ1, e, A1⟩ := h; rw [e]; exact ⟨ρ1, rfl, A1.sub s⟩
  | ct ρ1' g1 => rw [q] at h; obtain ⟨ρ1, e, A1⟩ := h; rw [e]; exact ⟨ρ1, rfl, A1.sub s⟩
  | bad => exact trivial
  | exc k fs ρ1' g1 =>
    rw [q] at h
    obtain ⟨ρ1, e, A1⟩ := h
    rw [e]
    exact fr_hndM s hl A1
theorem frm_nil : ∀ t ∈ ([] : List (Nat × Str × SF)), ∃ m2, FrS (t.1 :: m) m2 m t.2.2 ∧ Sub m m2 := fun t ht => nomatch ht
theorem frm_cons {i : Nat} {n : Str} {fh : SF} {m2 : List Nat} {l : List (Nat × Str × SF)} (h1 : FrS (i :: m) m2 m fh) (h2 : Sub m m2) (r : ∀ t ∈ l, ∃ m2, FrS (t.1 :: m) m2 m t.2.2 ∧ Sub m m2) : ∀ t ∈ (i, n, fh) :: l, ∃ m2, FrS (t.1 :: m) m2 m t.2.2 ∧ Sub m m2 := fun t ht => by
  rcases List.mem_cons.mp ht with rfl | h
  · exact ⟨m2, h1, h2⟩
  · exact r t h
end
theorem gp_m {n np : Nat} {f : SF} {m1 : List Nat} (h : FrS (List.range n) m1 [] f) : GP1 (mOf n np f) := fun ds g g' => by
  unfold mOf
  refine OR.ite ?_ trivial
  unfold runB
  have h := h (startR n ds) (startR n ds) g g' Ag.refl
  cases q : f (startR n ds) g' with
  | nx ρ1' g1 => rw [q] at h; obtain ⟨ρ1, e, _⟩ := h; rw [e]; exact rfl
  | rt d g1 => rw [q] at h; rw [show f (startR n ds) g = .rt d g from h]; exact rfl
  | exc n fs ρ1' g1 => rw [q] at h; obtain ⟨ρ1, e, _⟩ := h; rw [e]; exact rfl
  | _ => exact trivial
theorem gp_ok {m : List D → G → Out D} (h : GP1 m) {ds : List D} {d : D} {g' g1 : G} (e : m ds g' = .ok d g1) (g : G) : m ds g = .ok d g := by
  have := h ds g g'
  rw [e] at this
  exact this
end DL
namespace K19
open PySem
open PySem.Spec
open PyProof.Rows
open L2
open DL
theorem gp_jacobi : GP1 m_jacobi := gp_m (n := 3) (np := 2) (f := sem_jacobi)
 (fr_sSeq (fr_sTup (fr_vOf (fr_aCons (fr_eBin gp_mod (fr_eV (by decide +kernel)) (fr_eV (by decide +kernel))) (fr_aCons fr_eC fr_aNil))) (by decide +kernel))
 (fr_sSeq (fr_sWhile (by decide +kernel) (fr_tVal (fr_eBin gp_ne (fr_eV (by decide +kernel)) fr_eC)) (fr_sSeq (fr_sWhile (by decide +kernel) (fr_tVal (fr_eBin gp_eq (fr_eBin gp_mod (fr_eV (by decide +kernel)) fr_eC) fr_eC)) (fr_sSeq (fr_sSet (fr_eBin gp_div (fr_eV (by decide +kernel)) fr_eC) (by decide +kernel))
 (fr_sIf (fr_tVal (fr_eBin gp_in (fr_eBin gp_mod (fr_eV (by decide +kernel)) fr_eC) (fr_eTup (fr_aCons fr_eC (fr_aCons fr_eC fr_aNil))))) (by decide +kernel) (fr_sSet (fr_eBin gp_sub fr_eC (fr_eV (by decide +kernel))) (by decide +kernel)) (by decide +kernel) fr_sNil (by decide +kernel))) (by decide +kernel))
 (fr_sSeq (fr_sTup (fr_vOf (fr_aCons (fr_eV (by decide +kernel)) (fr_aCons (fr_eV (by decide +kernel)) fr_aNil))) (by decide +kernel))
 (fr_sSeq (fr_sIf (fr_tAndF (fr_tVal (fr_eBin gp_eq (fr_eBin gp_mod (fr_eV (by decide +kernel)) fr_eC) fr_eC)) (fr_tVal (fr_eBin gp_eq (fr_eBin gp_mod (fr_eV (by decide +kernel)) fr_eC) fr_eC))) (by decide +kernel) (fr_sSet (fr_eBin gp_sub fr_eC (fr_eV (by decide +kernel))) (by decide +kernel)) (by decide +kernel) fr_sNil (by decide +kernel))
 (fr_sSet (fr_eBin gp_mod (fr_eV (by decide +kernel)) (fr_eV (by decide +kernel))) (by decide +kernel))))) (by decide +kernel))
 (fr_sRet (fr_eIf (fr_tVal (fr_eBin gp_eq (fr_eV (by decide +kernel)) fr_eC)) (fr_eV (by decide +kernel)) fr_eC) (by decide +kernel))))
theorem gp_settled : GP1 m_settled := gp_m (n := 2) (np := 1) (f := sem_settled)
 (show FrS _ _ _ (sRet (eCall bTuple (aCons (eOf C_settled_1) aNil))) from (fr_sRet (fr_eCall gp_tuple (fr_aCons (fr_eOf (fr_oComp (fr_iSeq (fr_eSl (fr_eV (by decide +kernel)) fr_oNone (fr_oSome (fr_eNeg fr_eC)))) fr_bName fr_tYesF (fr_eBin gp_sub (fr_eV (by decide +kernel)) (fr_eBin gp_ix (fr_eV (by decide +kernel)) (fr_eNeg fr_eC))))) fr_aNil)) (by decide +kernel)))
theorem gp_whole : GP1 m_whole := gp_m (n := 2) (np := 2) (f := sem_whole)
 (show FrS _ _ _ (sRet (eBin opAdd (eTup (aCons (eV 1) aNil)) (eBin opMulT (eTup (aCons (eC (.int 0)) aNil)) (eBin opSub (eV 0) (eC (.int 2)))))) from (fr_sRet (fr_eBin gp_add (fr_eTup (fr_aCons (fr_eV (by decide +kernel)) fr_aNil)) (fr_eBin gp_mulT (fr_eTup (fr_aCons fr_eC fr_aNil)) (fr_eBin gp_sub (fr_eV (by decide +kernel)) fr_eC))) (by decide +kernel)))
theorem gp_plus : GP1 m_plus := gp_m (n := 3) (np := 2) (f := sem_plus)
 (show FrS _ _ _ (sRet (eCall bTuple (aCons (eOf C_plus_1) aNil))) from (fr_sRet (fr_eCall gp_tuple (fr_aCons (fr_eOf (fr_oComp (fr_iRan1 (fr_aCons (fr_eCall gp_len (fr_aCons (fr_eV (by decide +kernel)) fr_aNil)) fr_aNil)) fr_bName fr_tYesF (fr_eBin gp_add (fr_eBin gp_ix (fr_eV (by decide +kernel)) (fr_eV (by decide +kernel))) (fr_eBin gp_ix (fr_eV (by decide +kernel)) (fr_eV (by decide +kernel)))))) fr_aNil)) (by decide +kernel)))
theorem gp_starred : GP1 m_starred := gp_m (n := 1) (np := 1) (f := sem_starred)
 (show FrS _ _ _ (sRet (eIf (tVal (eBin opEq (eBin opMod (eV 0) (eC (.int 4))) (eC (.int 1)))) (eV 0) (eBin opSub (eC (.int 0)) (eV 0)))) from (fr_sRet (fr_eIf (fr_tVal (fr_eBin gp_eq (fr_eBin gp_mod (fr_eV (by decide +kernel)) fr_eC) fr_eC)) (fr_eV (by decide +kernel)) (fr_eBin gp_sub fr_eC (fr_eV (by decide +kernel)))) (by decide +kernel)))
theorem gp_trace : GP1 m_trace := gp_m (n := 2) (np := 1) (f := sem_trace)
 (fr_sSeq (fr_sSet (fr_eBin gp_add (fr_eCall gp_len (fr_aCons (fr_eV (by decide +kernel)) fr_aNil)) fr_eC) (by decide +kernel))
 (fr_sRet (fr_eBin gp_sub (fr_eBin gp_mul (fr_eBin gp_ix (fr_eV (by decide +kernel)) fr_eC) (fr_eBin gp_sub (fr_eV (by decide +kernel)) fr_eC)) (fr_eCall gp_sumA (fr_aCons (fr_eSl (fr_eV (by decide +kernel)) (fr_oSome fr_eC) fr_oNone) fr_aNil))) (by decide +kernel)))
theorem gp_is_whole_row : GP1 m_is_whole_row := gp_m (n := 2) (np := 1) (f := sem_is_whole_row)
 (show FrS _ _ _ (sRet (eCall bAll (aCons (eOf C_is_whole_row_1) aNil))) from (fr_sRet (fr_eCall gp_all (fr_aCons (fr_eOf (fr_oComp (fr_iSeq (fr_eSl (fr_eV (by decide +kernel)) (fr_oSome fr_eC) fr_oNone)) fr_bName fr_tYesF (fr_eBin gp_eq (fr_eV (by decide +kernel)) fr_eC))) fr_aNil)) (by decide +kernel)))
theorem gp_rest_by : GP1 m_rest_by := gp_m (n := 3) (np := 2) (f := sem_rest_by)
 (show FrS _ _ _ (sRet (eCall bTuple (aCons (eOf C_rest_by_1) aNil))) from (fr_sRet (fr_eCall gp_tuple (fr_aCons (fr_eOf (fr_oComp (fr_iSeq (fr_eV (by decide +kernel))) fr_bName fr_tYesF (fr_eBin gp_mod (fr_eV (by decide +kernel)) (fr_eV (by decide +kernel))))) fr_aNil)) (by decide +kernel)))
theorem gp_power_of : GP1 m_power_of := gp_m (n := 4) (np := 2) (f := sem_power_of)
 (fr_sSeq (fr_sSet fr_eC (by decide +kernel))
 (fr_sSeq (fr_sFor (fr_iRan1 (fr_aCons (fr_eV (by decide +kernel)) fr_aNil)) (by decide +kernel) fr_bName (show FrS _ _ _ (sSet 2 (eBin opMul (eV 2) (eV 0))) from (fr_sSet (fr_eBin gp_mul (fr_eV (by decide +kernel)) (fr_eV (by decide +kernel))) (by decide +kernel))) (by decide +kernel))
 (fr_sRet (fr_eV (by decide +kernel)) (by decide +kernel))))
theorem gp__law_factors : GP1 m__law_factors := gp_m (n := 6) (np := 1) (f := sem__law_factors)
 (fr_sSeq (fr_sTup (fr_vCons (fr_eV (by decide +kernel)) (fr_vOwn (fr_oLst fr_aNil) fr_aNil)) (by decide +kernel))
 (fr_sSeq (fr_sFor (fr_iRan2 (fr_aCons fr_eC (fr_aCons fr_eC fr_aNil))) (by decide +kernel) fr_bName (fr_sSeq (fr_sSet fr_eC (by decide +kernel))
 (fr_sSeq (fr_sFor (fr_iRan1 (fr_aCons fr_eC fr_aNil)) (by decide +kernel) fr_bName (show FrS _ _ _ (sIf (tVal (eBin opEq (eBin opMod (eCall bInt (aCons (eV 1) aNil)) (eV 3)) (eC (.int 0))))  S__law_factors_6  sNil) from (fr_sIf (fr_tVal (fr_eBin gp_eq (fr_eBin gp_mod (fr_eCall gp_int (fr_aCons (fr_eV (by decide +kernel)) fr_aNil)) (fr_eV (by decide +kernel))) fr_eC)) (by decide +kernel) (fr_sTup (fr_vOf (fr_aCons (fr_eBin gp_div (fr_eV (by decide +kernel)) (fr_eV (by decide +kernel))) (fr_aCons (fr_eBin gp_add (fr_eV (by decide +kernel)) fr_eC) fr_aNil))) (by decide +kernel)) (by decide +kernel) fr_sNil (by decide +kernel))) (by decide +kernel))
 (fr_sSeq (fr_sIf (fr_tVal (fr_eBin gp_I (fr_eV (by decide +kernel)) fr_eC)) (by decide +kernel) (fr_sApp (by decide +kernel) (fr_eTup (fr_aCons (fr_eV (by decide +kernel)) (fr_aCons (fr_eV (by decide +kernel)) fr_aNil))) (by decide +kernel)) (by decide +kernel) fr_sNil (by decide +kernel))
 (fr_sIf (fr_tVal (fr_eBin gp_I (fr_eBin gp_mul (fr_eV (by decide +kernel)) (fr_eV (by decide +kernel))) (fr_eV (by decide +kernel)))) (by decide +kernel) (fr_sBrk (by decide +kernel)) (by decide +kernel) fr_sNil (by decide +kernel))))) (by decide +kernel))
 (fr_sFrz (by decide +kernel) (fr_sRet (fr_eBin gp_add (fr_eV (by decide +kernel)) (fr_eIf (fr_tVal (fr_eBin gp_I (fr_eV (by decide +kernel)) fr_eC)) (fr_eLst (fr_aCons (fr_eTup (fr_aCons (fr_eV (by decide +kernel)) (fr_aCons fr_eC fr_aNil))) fr_aNil)) (fr_eLst fr_aNil))) (by decide +kernel)))))
theorem gp__law_settled : GP1 m__law_settled := gp_m (n := 2) (np := 1) (f := sem__law_settled)
 (show FrS _ _ _ (sRet (eCall bTuple (aCons (eOf C__law_settled_1) aNil))) from (fr_sRet (fr_eCall gp_tuple (fr_aCons (fr_eOf (fr_oComp (fr_iSeq (fr_eSl (fr_eV (by decide +kernel)) fr_oNone (fr_oSome (fr_eNeg fr_eC)))) fr_bName fr_tYesF (fr_eBin gp_sub (fr_eV (by decide +kernel)) (fr_eBin gp_ix (fr_eV (by decide +kernel)) (fr_eNeg fr_eC))))) fr_aNil)) (by decide +kernel)))
theorem gp_root_power : GP1 m_root_power := gp_m (n := 3) (np := 2) (f := sem_root_power)
 (fr_sSeq (fr_sSetO (fr_oRep (fr_eLst (fr_aCons fr_eC fr_aNil)) (fr_eV (by decide +kernel))) (by decide +kernel))
 (fr_sSeq (fr_sSetIx (by decide +kernel) fr_eC (fr_eBin gp_mod (fr_eV (by decide +kernel)) (fr_eV (by decide +kernel))) (by decide +kernel))
 (fr_sFrz (by decide +kernel) (fr_sRet (fr_eCall gp_settled (fr_aCons (fr_eV (by decide +kernel)) fr_aNil)) (by decide +kernel)))))
theorem gp_times : GP1 m_times := gp_m (n := 6) (np := 2) (f := sem_times)
 (fr_sSeq (fr_sSet (fr_eBin gp_add (fr_eCall gp_len (fr_aCons (fr_eV (by decide +kernel)) fr_aNil)) fr_eC) (by decide +kernel))
 (fr_sSeq (fr_sSetO (fr_oRep (fr_eLst (fr_aCons fr_eC fr_aNil)) (fr_eV (by decide +kernel))) (by decide +kernel))
 (fr_sSeq (fr_sFor (fr_iRan1 (fr_aCons (fr_eCall gp_len (fr_aCons (fr_eV (by decide +kernel)) fr_aNil)) fr_aNil)) (by decide +kernel) fr_bName (show FrS _ _ _ (sFor (iRan1 (aCons (eCall bLen (aCons (eV 1) aNil)) aNil)) (bName 5)  B_times_4) from (fr_sFor (fr_iRan1 (fr_aCons (fr_eCall gp_len (fr_aCons (fr_eV (by decide +kernel)) fr_aNil)) fr_aNil)) (by decide +kernel) fr_bName (show FrS _ _ _ (sAugIx 3 (fun i j => i + j) (eBin opMod (eBin opAdd (eV 4) (eV 5)) (eV 2)) (eBin opMul (eBin opIx (eV 0) (eV 4)) (eBin opIx (eV 1) (eV 5)))) from (fr_sAugIx (by decide +kernel) (fr_eBin gp_mod (fr_eBin gp_add (fr_eV (by decide +kernel)) (fr_eV (by decide +kernel))) (fr_eV (by decide +kernel))) (fr_eBin gp_mul (fr_eBin gp_ix (fr_eV (by decide +kernel)) (fr_eV (by decide +kernel))) (fr_eBin gp_ix (fr_eV (by decide +kernel)) (fr_eV (by decide +kernel)))) (by decide +kernel))) (by decide +kernel))) (by decide +kernel))
 (fr_sFrz (by decide +kernel) (fr_sRet (fr_eCall gp_settled (fr_aCons (fr_eV (by decide +kernel)) fr_aNil)) (by decide +kernel))))))
theorem gp_moved : GP1 m_moved := gp_m (n := 5) (np := 2) (f := sem_moved)
 (fr_sSeq (fr_sSet (fr_eBin gp_add (fr_eCall gp_len (fr_aCons (fr_eV (by decide +kernel)) fr_aNil)) fr_eC) (by decide +kernel))
 (fr_sSeq (fr_sSetO (fr_oRep (fr_eLst (fr_aCons fr_eC fr_aNil)) (fr_eV (by decide +kernel))) (by decide +kernel))
 (fr_sSeq (fr_sFor (fr_iRan1 (fr_aCons (fr_eCall gp_len (fr_aCons (fr_eV (by decide +kernel)) fr_aNil)) fr_aNil)) (by decide +kernel) fr_bName (show FrS _ _ _ (sAugIx 3 (fun i j => i + j) (eBin opMod (eBin opMul (eV 4) (eV 1)) (eV 2)) (eBin opIx (eV 0) (eV 4))) from (fr_sAugIx (by decide +kernel) (fr_eBin gp_mod (fr_eBin gp_mul (fr_eV (by decide +kernel)) (fr_eV (by decide +kernel))) (fr_eV (by decide +kernel))) (fr_eBin gp_ix (fr_eV (by decide +kernel)) (fr_eV (by decide +kernel))) (by decide +kernel))) (by decide +kernel))
 (fr_sFrz (by decide +kernel) (fr_sRet (fr_eCall gp_settled (fr_aCons (fr_eV (by decide +kernel)) fr_aNil)) (by decide +kernel))))))
theorem gp__law_jacobi : GP1 m__law_jacobi := gp_m (n := 9) (np := 2) (f := sem__law_jacobi)
 (fr_sSeq (fr_sSet fr_eC (by decide +kernel))
 (fr_sSeq (fr_sFor (fr_iSeq (fr_eCall gp__law_factors (fr_aCons (fr_eV (by decide +kernel)) fr_aNil))) (by decide +kernel) (fr_bTup (fr_bCons fr_bName (fr_bCons fr_bName fr_bNil))) (fr_sSeq (fr_sSet (fr_eBin gp_mod (fr_eCall gp_int (fr_aCons (fr_eV (by decide +kernel)) fr_aNil)) (fr_eV (by decide +kernel))) (by decide +kernel))
 (fr_sSeq (fr_sSet (fr_eIf (fr_tVal (fr_eBin gp_eq (fr_eV (by decide +kernel)) fr_eC)) fr_eC (fr_eIf (fr_tVal (fr_eBin gp_I (fr_eCall gp_len (fr_aCons (fr_eOf (fr_oComp (fr_iRan2 (fr_aCons fr_eC (fr_aCons (fr_eV (by decide +kernel)) fr_aNil))) fr_bName (fr_tVal (fr_eBin gp_eq (fr_eBin gp_mod (fr_eCall gp_int (fr_aCons (fr_eBin gp_mul (fr_eV (by decide +kernel)) (fr_eV (by decide +kernel))) fr_aNil)) (fr_eV (by decide +kernel))) (fr_eV (by decide +kernel)))) (fr_eV (by decide +kernel)))) fr_aNil)) fr_eC)) fr_eC (fr_eNeg fr_eC))) (by decide +kernel))
 (fr_sFor (fr_iRan1 (fr_aCons (fr_eV (by decide +kernel)) fr_aNil)) (by decide +kernel) fr_bName (show FrS _ _ _ (sSet 2 (eBin opMul (eV 2) (eV 6))) from (fr_sSet (fr_eBin gp_mul (fr_eV (by decide +kernel)) (fr_eV (by decide +kernel))) (by decide +kernel))) (by decide +kernel)))) (by decide +kernel))
 (fr_sRet (fr_eV (by decide +kernel)) (by decide +kernel))))
theorem gp__law_times : GP1 m__law_times := gp_m (n := 6) (np := 2) (f := sem__law_times)
 (fr_sSeq (fr_sSet (fr_eBin gp_add (fr_eCall gp_len (fr_aCons (fr_eV (by decide +kernel)) fr_aNil)) fr_eC) (by decide +kernel))
 (fr_sSeq (fr_sSetO (fr_oRep (fr_eLst (fr_aCons fr_eC fr_aNil)) (fr_eV (by decide +kernel))) (by decide +kernel))
 (fr_sSeq (fr_sFor (fr_iRan1 (fr_aCons (fr_eCall gp_len (fr_aCons (fr_eV (by decide +kernel)) fr_aNil)) fr_aNil)) (by decide +kernel) fr_bName (show FrS _ _ _ (sFor (iRan1 (aCons (eCall bLen (aCons (eV 1) aNil)) aNil)) (bName 5)  B__law_times_4) from (fr_sFor (fr_iRan1 (fr_aCons (fr_eCall gp_len (fr_aCons (fr_eV (by decide +kernel)) fr_aNil)) fr_aNil)) (by decide +kernel) fr_bName (show FrS _ _ _ (sSetIx 3 (eBin opAdd (eIxA 3 (eBin opMod (eCall bInt (aCons (eBin opAdd (eV 4) (eV 5)) aNil)) (eV 2))) (eBin opMul (eBin opIx (eV 0) (eV 4)) (eBin opIx (eV 1) (eV 5)))) (eBin opMod (eCall bInt (aCons (eBin opAdd (eV 4) (eV 5)) aNil)) (eV 2))) from (fr_sSetIx (by decide +kernel) (fr_eBin gp_add (fr_eIxA (by decide +kernel) (fr_eBin gp_mod (fr_eCall gp_int (fr_aCons (fr_eBin gp_add (fr_eV (by decide +kernel)) (fr_eV (by decide +kernel))) fr_aNil)) (fr_eV (by decide +kernel)))) (fr_eBin gp_mul (fr_eBin gp_ix (fr_eV (by decide +kernel)) (fr_eV (by decide +kernel))) (fr_eBin gp_ix (fr_eV (by decide +kernel)) (fr_eV (by decide +kernel))))) (fr_eBin gp_mod (fr_eCall gp_int (fr_aCons (fr_eBin gp_add (fr_eV (by decide +kernel)) (fr_eV (by decide +kernel))) fr_aNil)) (fr_eV (by decide +kernel))) (by decide +kernel))) (by decide +kernel))) (by decide +kernel))
 (fr_sFrz (by decide +kernel) (fr_sRet (fr_eCall gp__law_settled (fr_aCons (fr_eV (by decide +kernel)) fr_aNil)) (by decide +kernel))))))
theorem gp_factors : GP1 m_factors := gp_m (n := 5) (np := 1) (f := sem_factors)
 (fr_sSeq (fr_sTup (fr_vCons (fr_eCall gp_abs (fr_aCons (fr_eV (by decide +kernel)) fr_aNil)) (fr_vOwn (fr_oLst fr_aNil) (fr_aCons fr_eC fr_aNil))) (by decide +kernel))
 (fr_sSeq (fr_sIf (fr_tVal (fr_eBin gp_I (fr_eV (by decide +kernel)) fr_eC)) (by decide +kernel) (fr_sRaise fr_eC (by decide +kernel)) (by decide +kernel) fr_sNil (by decide +kernel))
 (fr_sSeq (fr_sWhile (by decide +kernel) (fr_tVal (fr_eBin gp_I (fr_eBin gp_mul (fr_eV (by decide +kernel)) (fr_eV (by decide +kernel))) (fr_eV (by decide +kernel)))) (fr_sSeq (fr_sSet fr_eC (by decide +kernel))
 (fr_sSeq (fr_sWhile (by decide +kernel) (fr_tVal (fr_eBin gp_eq (fr_eBin gp_mod (fr_eV (by decide +kernel)) (fr_eV (by decide +kernel))) fr_eC)) (show FrS _ _ _ (sTup [1, 4] (vOf (aCons (eBin opDiv (eV 1) (eV 3)) (aCons (eBin opAdd (eV 4) (eC (.int 1))) aNil)))) from (fr_sTup (fr_vOf (fr_aCons (fr_eBin gp_div (fr_eV (by decide +kernel)) (fr_eV (by decide +kernel))) (fr_aCons (fr_eBin gp_add (fr_eV (by decide +kernel)) fr_eC) fr_aNil))) (by decide +kernel))) (by decide +kernel))
 (fr_sSeq (fr_sIf (fr_tVal (fr_eBin gp_I (fr_eV (by decide +kernel)) fr_eC)) (by decide +kernel) (fr_sApp (by decide +kernel) (fr_eTup (fr_aCons (fr_eV (by decide +kernel)) (fr_aCons (fr_eV (by decide +kernel)) fr_aNil))) (by decide +kernel)) (by decide +kernel) fr_sNil (by decide +kernel))
 (fr_sAug (by decide +kernel) (fr_eIf (fr_tVal (fr_eBin gp_eq (fr_eV (by decide +kernel)) fr_eC)) fr_eC fr_eC) (by decide +kernel))))) (by decide +kernel))
 (fr_sSeq (fr_sIf (fr_tVal (fr_eBin gp_I (fr_eV (by decide +kernel)) fr_eC)) (by decide +kernel) (fr_sApp (by decide +kernel) (fr_eTup (fr_aCons (fr_eV (by decide +kernel)) (fr_aCons fr_eC fr_aNil))) (by decide +kernel)) (by decide +kernel) fr_sNil (by decide +kernel))
 (fr_sFrz (by decide +kernel) (fr_sRet (fr_eV (by decide +kernel)) (by decide +kernel)))))))
theorem gp_power : GP1 m_power := gp_m (n := 3) (np := 2) (f := sem_power)
 (fr_sSeq (fr_sSet (fr_eCall gp_whole (fr_aCons (fr_eBin gp_add (fr_eCall gp_len (fr_aCons (fr_eV (by decide +kernel)) fr_aNil)) fr_eC) (fr_aCons fr_eC fr_aNil))) (by decide +kernel))
 (fr_sSeq (fr_sWhile (by decide +kernel) (fr_tVal (fr_eBin gp_I (fr_eV (by decide +kernel)) fr_eC)) (fr_sSeq (fr_sIf (fr_tVal (fr_eBin gp_eq (fr_eBin gp_mod (fr_eV (by decide +kernel)) fr_eC) fr_eC)) (by decide +kernel) (fr_sSet (fr_eCall gp_times (fr_aCons (fr_eV (by decide +kernel)) (fr_aCons (fr_eV (by decide +kernel)) fr_aNil))) (by decide +kernel)) (by decide +kernel) fr_sNil (by decide +kernel))
 (fr_sTup (fr_vOf (fr_aCons (fr_eCall gp_times (fr_aCons (fr_eV (by decide +kernel)) (fr_aCons (fr_eV (by decide +kernel)) fr_aNil))) (fr_aCons (fr_eBin gp_div (fr_eV (by decide +kernel)) fr_eC) fr_aNil))) (by decide +kernel))) (by decide +kernel))
 (fr_sRet (fr_eV (by decide +kernel)) (by decide +kernel))))
theorem gp_is_prime : GP1 m_is_prime := gp_m (n := 1) (np := 1) (f := sem_is_prime)
 (show FrS _ _ _ (sRet (eAnd (eBin opGt (eV 0) (eC (.int 1))) (eBin opEq (eCall m_factors (aCons (eV 0) aNil)) (eLst (aCons (eTup (aCons (eV 0) (aCons (eC (.int 1)) aNil))) aNil))))) from (fr_sRet (fr_eAnd (fr_eBin gp_I (fr_eV (by decide +kernel)) fr_eC) (fr_eBin gp_eq (fr_eCall gp_factors (fr_aCons (fr_eV (by decide +kernel)) fr_aNil)) (fr_eLst (fr_aCons (fr_eTup (fr_aCons (fr_eV (by decide +kernel)) (fr_aCons fr_eC fr_aNil))) fr_aNil)))) (by decide +kernel)))
theorem gp_check : GP1 m_check := gp_m (n := 1) (np := 1) (f := sem_check)
 (show FrS _ _ _ (sIf (tOrF (tVal (eBin opEq (eV 0) (eC (.int 2)))) (tOrF (tVal (eBin opGt (eV 0) (eC (.int 61)))) (tNotF (tTru (eCall m_is_prime (aCons (eV 0) aNil))))))  S_check_2  sNil) from (fr_sIf (fr_tOrF (fr_tVal (fr_eBin gp_eq (fr_eV (by decide +kernel)) fr_eC)) (fr_tOrF (fr_tVal (fr_eBin gp_I (fr_eV (by decide +kernel)) fr_eC)) (fr_tNotF (fr_tTru (fr_eCall gp_is_prime (fr_aCons (fr_eV (by decide +kernel)) fr_aNil)))))) (by decide +kernel) (fr_sRaise fr_eC (by decide +kernel)) (by decide +kernel) fr_sNil (by decide +kernel)))
theorem gp_sum_of_signs : GP1 m_sum_of_signs := gp_m (n := 4) (np := 2) (f := sem_sum_of_signs)
 (fr_sSeq (fr_sExpr (fr_eCall gp_check (fr_aCons (fr_eV (by decide +kernel)) fr_aNil)) (by decide +kernel))
 (fr_sSeq (fr_sSetO (fr_oRep (fr_eLst (fr_aCons fr_eC fr_aNil)) (fr_eV (by decide +kernel))) (by decide +kernel))
 (fr_sSeq (fr_sFor (fr_iRan2 (fr_aCons fr_eC (fr_aCons (fr_eV (by decide +kernel)) fr_aNil))) (by decide +kernel) fr_bName (show FrS _ _ _ (sAugIx 2 (fun i j => i + j) (eBin opMod (eBin opMul (eV 3) (eV 1)) (eV 0)) (eCall m_jacobi (aCons (eV 3) (aCons (eV 0) aNil)))) from (fr_sAugIx (by decide +kernel) (fr_eBin gp_mod (fr_eBin gp_mul (fr_eV (by decide +kernel)) (fr_eV (by decide +kernel))) (fr_eV (by decide +kernel))) (fr_eCall gp_jacobi (fr_aCons (fr_eV (by decide +kernel)) (fr_aCons (fr_eV (by decide +kernel)) fr_aNil))) (by decide +kernel))) (by decide +kernel))
 (fr_sFrz (by decide +kernel) (fr_sRet (fr_eCall gp_settled (fr_aCons (fr_eV (by decide +kernel)) fr_aNil)) (by decide +kernel))))))
theorem gp_sum_of_squares : GP1 m_sum_of_squares := gp_m (n := 4) (np := 2) (f := sem_sum_of_squares)
 (fr_sSeq (fr_sExpr (fr_eCall gp_check (fr_aCons (fr_eV (by decide +kernel)) fr_aNil)) (by decide +kernel))
 (fr_sSeq (fr_sSetO (fr_oRep (fr_eLst (fr_aCons fr_eC fr_aNil)) (fr_eV (by decide +kernel))) (by decide +kernel))
 (fr_sSeq (fr_sFor (fr_iRan1 (fr_aCons (fr_eV (by decide +kernel)) fr_aNil)) (by decide +kernel) fr_bName (show FrS _ _ _ (sAugIx 2 (fun i j => i + j) (eBin opMod (eBin opMul (eBin opMul (eV 3) (eV 3)) (eV 1)) (eV 0)) (eC (.int 1))) from (fr_sAugIx (by decide +kernel) (fr_eBin gp_mod (fr_eBin gp_mul (fr_eBin gp_mul (fr_eV (by decide +kernel)) (fr_eV (by decide +kernel))) (fr_eV (by decide +kernel))) (fr_eV (by decide +kernel))) fr_eC (by decide +kernel))) (by decide +kernel))
 (fr_sFrz (by decide +kernel) (fr_sRet (fr_eCall gp_settled (fr_aCons (fr_eV (by decide +kernel)) fr_aNil)) (by decide +kernel))))))
theorem gp__law_word : GP1 m__law_word := gp_m (n := 2) (np := 1) (f := sem__law_word)
 (show FrS _ _ _ (sTry 1 "Misstep"  (sSeq S__law_word_2  S__law_word_3)  S__law_word_4) from (fr_sTry (by decide +kernel) (fr_sSeq (fr_sExpr (fr_eCall gp_check (fr_aCons (fr_eV (by decide +kernel)) fr_aNil)) (by decide +kernel))
 (fr_sRet fr_eC (by decide +kernel))) (by decide +kernel) (fr_sRet (fr_eExF (by decide +kernel)) (by decide +kernel)) (by decide +kernel)))
theorem gp_many_sums : GP1 m_many_sums := gp_m (n := 5) (np := 3) (f := sem_many_sums)
 (fr_sSeq (fr_sExpr (fr_eCall gp_check (fr_aCons (fr_eV (by decide +kernel)) fr_aNil)) (by decide +kernel))
 (fr_sSeq (fr_sSet (fr_eCall gp_whole (fr_aCons (fr_eV (by decide +kernel)) (fr_aCons (fr_eCall gp_power_of (fr_aCons (fr_eV (by decide +kernel)) (fr_aCons (fr_eV (by decide +kernel)) fr_aNil))) fr_aNil))) (by decide +kernel))
 (fr_sSeq (fr_sFor (fr_iRan2 (fr_aCons fr_eC (fr_aCons (fr_eV (by decide +kernel)) fr_aNil))) (by decide +kernel) fr_bName (show FrS _ _ _ (sSet 3 (eCall m_plus (aCons (eV 3) (aCons (eCall m_times (aCons (eCall m_power (aCons (eCall m_sum_of_squares (aCons (eV 0) (aCons (eV 4) aNil))) (aCons (eV 1) aNil))) (aCons (eCall m_root_power (aCons (eV 0) (aCons (eBin opSub (eC (.int 0)) (eBin opMul (eV 4) (eV 2))) aNil))) aNil))) aNil)))) from (fr_sSet (fr_eCall gp_plus (fr_aCons (fr_eV (by decide +kernel)) (fr_aCons (fr_eCall gp_times (fr_aCons (fr_eCall gp_power (fr_aCons (fr_eCall gp_sum_of_squares (fr_aCons (fr_eV (by decide +kernel)) (fr_aCons (fr_eV (by decide +kernel)) fr_aNil))) (fr_aCons (fr_eV (by decide +kernel)) fr_aNil))) (fr_aCons (fr_eCall gp_root_power (fr_aCons (fr_eV (by decide +kernel)) (fr_aCons (fr_eBin gp_sub fr_eC (fr_eBin gp_mul (fr_eV (by decide +kernel)) (fr_eV (by decide +kernel)))) fr_aNil))) fr_aNil))) fr_aNil))) (by decide +kernel))) (by decide +kernel))
 (fr_sSeq (fr_sIf (fr_tOrF (fr_tNotF (fr_tTru (fr_eCall gp_is_whole_row (fr_aCons (fr_eV (by decide +kernel)) fr_aNil)))) (fr_tVal (fr_eBin gp_ne (fr_eBin gp_mod (fr_eBin gp_ix (fr_eV (by decide +kernel)) fr_eC) (fr_eV (by decide +kernel))) fr_eC))) (by decide +kernel) (fr_sRaise fr_eC (by decide +kernel)) (by decide +kernel) fr_sNil (by decide +kernel))
 (fr_sRet (fr_eBin gp_div (fr_eBin gp_ix (fr_eV (by decide +kernel)) fr_eC) (fr_eV (by decide +kernel))) (by decide +kernel))))))
theorem gp_turned_sign : GP1 m_turned_sign := gp_m (n := 6) (np := 2) (f := sem_turned_sign)
 (fr_sSeq (fr_sExpr (fr_eCall gp_check (fr_aCons (fr_eV (by decide +kernel)) fr_aNil)) (by decide +kernel))
 (fr_sSeq (fr_sSet (fr_eCall gp_rest_by (fr_aCons (fr_eCall gp_power (fr_aCons (fr_eCall gp_sum_of_signs (fr_aCons (fr_eV (by decide +kernel)) (fr_aCons fr_eC fr_aNil))) (fr_aCons (fr_eV (by decide +kernel)) fr_aNil))) (fr_aCons (fr_eV (by decide +kernel)) fr_aNil))) (by decide +kernel))
 (fr_sSeq (fr_sSet (fr_eCall gp_rest_by (fr_aCons (fr_eCall gp_sum_of_signs (fr_aCons (fr_eV (by decide +kernel)) (fr_aCons fr_eC fr_aNil))) (fr_aCons (fr_eV (by decide +kernel)) fr_aNil))) (by decide +kernel))
 (fr_sSeq (fr_sSet (fr_eCall gp_rest_by (fr_aCons (fr_eCall gp_tuple (fr_aCons (fr_eOf (fr_oComp (fr_iSeq (fr_eCall gp_sum_of_signs (fr_aCons (fr_eV (by decide +kernel)) (fr_aCons fr_eC fr_aNil)))) fr_bName fr_tYesF (fr_eBin gp_sub fr_eC (fr_eV (by decide +kernel))))) fr_aNil)) (fr_aCons (fr_eV (by decide +kernel)) fr_aNil))) (by decide +kernel))
 (fr_sSeq (fr_sIf (fr_tVal (fr_eBin gp_eq (fr_eV (by decide +kernel)) (fr_eV (by decide +kernel)))) (by decide +kernel) (fr_sRet fr_eC (by decide +kernel)) (by decide +kernel) fr_sNil (by decide +kernel))
 (fr_sSeq (fr_sIf (fr_tVal (fr_eBin gp_eq (fr_eV (by decide +kernel)) (fr_eV (by decide +kernel)))) (by decide +kernel) (fr_sRet (fr_eBin gp_sub fr_eC fr_eC) (by decide +kernel)) (by decide +kernel) fr_sNil (by decide +kernel))
 (fr_sRaise fr_eC (by decide +kernel))))))))
end K19
namespace DL
open PySem
open PySem.Spec
open PyProof.Rows
open L2
def irg (lo : Int) (n : Nat) : List Int := (List.range n).map fun (i : Nat) => lo + (i : Int)
theorem irg_len {lo : Int} {n : Nat} : (irg lo n).length = n := by unfold irg; simp
theorem upTo_irg {lo : Int} {n : Nat} : upTo lo n = (irg lo n).map .int := by
  unfold DL.upTo irg
  rw [List.map_map]
  rfl
theorem irg_get {lo : Int} {n i : Nat} (h : i < n) : (irg lo n)[i]? = some (lo + (i : Int)) := by
  unfold irg
  rw [List.getElem?_map, List.getElem?_range h]
  rfl
theorem mem_irg {lo : Int} {n : Nat} {x : Int} : x ∈ irg lo n ↔ lo ≤ x ∧ x < lo + n := by
  unfold irg
  rw [List.mem_map]
  constructor
  · rintro ⟨i, hi, rfl⟩
    rw [List.mem_range] at hi
    omega
  · rintro ⟨h1, h2⟩
    exact ⟨(x - lo).toNat, List.mem_range.mpr (by omega), by omega⟩
theorem comp_irg {vs : List Nat} {fi : LF} {b : BF} {ft : TF} {fe : EF} {ρ : RS} {g : G} {lo : Int} {n : Nat} (t : Int → Bool) (v : Int → D) (hi : fi ρ g = .ok (upTo lo n) g) (hl : n ≤ 1000000)
    (h : ∀ x : Int, lo ≤ x → x < lo + n → ∃ ρ1, b (.int x) (wipeR ρ vs) = some ρ1 ∧ ft ρ1 g = .ok (t x) g ∧ (t x = true → fe ρ1 g = .ok (v x) g ∧ noTok [v x] = true)) :
    oComp vs fi b ft fe ρ g = .ok (((irg lo n).filter t).map v) g := by
  obtain ⟨ds, g', ⟨rfl, e⟩, q⟩ := oComp_run (vs := vs) (b := b) (ft := ft) (fe := fe) (fun i acc g' => g' = g ∧ acc = (((irg lo n).take i).filter t).map v) hi (by rw [upTo_len]; exact hl) ⟨rfl, rfl⟩ (fun i hx acc g' ⟨e1, e2⟩ => by
    subst e1 e2
    have hn : i < n := by rw [upTo_len] at hx; exact hx
    have hg : (upTo lo n)[i] = .int (lo + (i : Int)) := by
      have h1 : (upTo lo n)[i]? = some (.int (lo + (i : Int))) := by rw [upTo_irg, List.getElem?_map, irg_get hn]; rfl
      rw [List.getElem?_eq_getElem hx] at h1
      exact Option.some.inj h1
    obtain ⟨ρ1, h1, h2, h3⟩ := h (lo + (i : Int)) (by omega) (by omega)
    rw [hg]
    refine ⟨ρ1, g', h1, ?_⟩
    have ht : (irg lo n).take (i + 1) = (irg lo n).take i ++ [lo + (i : Int)] := by rw [List.take_add_one, irg_get hn]; rfl
    cases k : t (lo + (i : Int)) with
    | false =>
      rw [k] at h2
      refine .inl ⟨h2, rfl, ?_⟩
      rw [ht, List.filter_append, List.filter_cons_of_neg (by rw [k]; decide), List.filter_nil, List.append_nil]
    | true =>
      rw [k] at h2
      obtain ⟨h4, h5⟩ := h3 k
      refine .inr ⟨h2, _, g', h4, h5, rfl, ?_⟩
      rw [ht, List.filter_append, List.filter_cons_of_pos k, List.filter_nil, List.map_append]
      rfl)
  rw [q, e, upTo_len]
  congr 4
  exact List.take_of_length_le (by rw [irg_len]; exact Nat.le_refl _)
theorem comp_all {vs : List Nat} {fi : LF} {b : BF} {fe : EF} {ρ : RS} {g : G} {lo : Int} {n : Nat} (v : Int → D) (hi : fi ρ g = .ok (upTo lo n) g) (hl : n ≤ 1000000)
    (h : ∀ x : Int, lo ≤ x → x < lo + n → ∃ ρ1, b (.int x) (wipeR ρ vs) = some ρ1 ∧ fe ρ1 g = .ok (v x) g ∧ noTok [v x] = true) :
    oComp vs fi b tYesF fe ρ g = .ok ((irg lo n).map v) g := by
  rw [comp_irg (fun _ => true) v hi hl fun x h1 h2 => by
    obtain ⟨ρ1, k1, k2, k3⟩ := h x h1 h2
    exact ⟨ρ1, k1, rfl, fun _ => ⟨k2, k3⟩⟩]
  rw [List.filter_eq_self.mpr fun _ _ => rfl]
theorem bSum_ints {l : List Int} {g : G} : bSum [.list (l.map PyData.int)] g = .ok (.int l.sum) g := by
  show (match asInts (l.map PyData.int) with | some ns => Out.ok (PyData.int ns.sum) g | none => .bad) = _
  rw [asInts_map]
theorem bAny_bools {l : List Bool} {g : G} : bAny [.list (l.map PyData.bool)] g = .ok (.bool (l.any id)) g := by
  show (match asBools (l.map PyData.bool) with | some ns => Out.ok (PyData.bool (ns.any id)) g | none => .bad) = _
  rw [asBools_map]
theorem compF_irg {b : BF} {ft : TF} {fe : EF} {ρ : RS} {g : G} (t : Int → Bool) (v : Int → D) : ∀ (xs : List Int)
    (h : ∀ x ∈ xs, ∃ ρ1, b (.int x) ρ = some ρ1 ∧ ft ρ1 g = .ok (t x) g ∧ (t x = true → fe ρ1 g = .ok (v x) g ∧ noTok [v x] = true)),
    compF b ft fe ρ (xs.map PyData.int) g = .ok ((xs.filter t).map v) g
  | [], _ => rfl
  | x :: xs, h => by
    obtain ⟨ρ1, h1, h2, h3⟩ := h x List.mem_cons_self
    have ih := compF_irg t v xs fun y hy => h y (List.mem_cons_of_mem _ hy)
    rw [List.map_cons]
    cases k : t x with
    | false =>
      rw [k] at h2
      simp only [compF, h1, h2, ih]
      rw [List.filter_cons_of_neg (by rw [k]; decide)]
    | true =>
      rw [k] at h2
      obtain ⟨h4, h5⟩ := h3 k
      simp only [compF, h1, h2, h4, h5, ih, if_true]
      rw [List.filter_cons_of_pos k]
      rfl
theorem compF2_irg {vs1 : List Nat} {b b1 : BF} {fi1 : LF} {ft1 : TF} {fe : EF} {ρ : RS} {g : G} (lo1 : Int → Int) (n1 : Int → Nat) (t : Int → Int → Bool) (v : Int → Int → D) : ∀ (xs : List Int)
    (h : ∀ x ∈ xs, ∃ ρ1, b (.int x) ρ = some ρ1 ∧ fi1 ρ1 g = .ok (DL.upTo (lo1 x) (n1 x)) g ∧ ∀ y ∈ irg (lo1 x) (n1 x), ∃ ρ2, b1 (.int y) (wipeR ρ1 vs1) = some ρ2 ∧ ft1 ρ2 g = .ok (t x y) g ∧ (t x y = true → fe ρ2 g = .ok (v x y) g ∧ noTok [v x y] = true)),
    compF2 vs1 b tYesF fi1 b1 ft1 fe ρ (xs.map PyData.int) g = .ok (xs.flatMap fun x => ((irg (lo1 x) (n1 x)).filter (t x)).map (v x)) g
  | [], _ => rfl
  | x :: xs, h => by
    obtain ⟨ρ1, h1, h2, h3⟩ := h x List.mem_cons_self
    have ih := compF2_irg (vs1 := vs1) (b := b) (b1 := b1) (fi1 := fi1) (ft1 := ft1) (fe := fe) (ρ := ρ) (g := g) lo1 n1 t v xs fun y hy => h y (List.mem_cons_of_mem _ hy)
    rw [List.map_cons]
    have hc := compF_irg (t x) (v x) (irg (lo1 x) (n1 x)) h3
    rw [upTo_irg] at h2
    simp only [compF2, h1, tYesF, h2, hc, bind_ok, ih]
    rw [List.flatMap_cons]
theorem flat_len {f : Int → List D} {k : Nat} : ∀ (xs : List Int), (∀ x ∈ xs, (f x).length ≤ k) → (xs.flatMap f).length ≤ xs.length * k
  | [], _ => Nat.zero_le _
  | x :: xs, h => by
    have ih := flat_len xs fun y hy => h y (List.mem_cons_of_mem _ hy)
    have h1 := h x List.mem_cons_self
    rw [List.flatMap_cons, List.length_append, List.length_cons, Nat.add_mul]
    omega
theorem comp2_irg {vs vs1 : List Nat} {fi : LF} {b b1 : BF} {fi1 : LF} {ft1 : TF} {fe : EF} {ρ : RS} {g : G} {lo : Int} {n : Nat} (lo1 : Int → Int) (n1 : Int → Nat) (t : Int → Int → Bool) (v : Int → Int → D) (hi : fi ρ g = .ok (DL.upTo lo n) g) (k : Nat) (hk : ∀ x, lo ≤ x → x < lo + n → n1 x ≤ k) (hl : n * k ≤ 1000000)
    (h : ∀ x, lo ≤ x → x < lo + n → ∃ ρ1, b (.int x) (wipeR ρ vs) = some ρ1 ∧ fi1 ρ1 g = .ok (DL.upTo (lo1 x) (n1 x)) g ∧ ∀ y, lo1 x ≤ y → y < lo1 x + n1 x → ∃ ρ2, b1 (.int y) (wipeR ρ1 vs1) = some ρ2 ∧ ft1 ρ2 g = .ok (t x y) g ∧ (t x y = true → fe ρ2 g = .ok (v x y) g ∧ noTok [v x y] = true)) :
    oComp2 vs vs1 fi b tYesF fi1 b1 ft1 fe ρ g = .ok ((irg lo n).flatMap fun x => ((irg (lo1 x) (n1 x)).filter (t x)).map (v x)) g := by
  show (fi ρ g).bind _ = _
  rw [hi, upTo_irg]
  show (compF2 vs1 b tYesF fi1 b1 ft1 fe (wipeR ρ vs) ((irg lo n).map PyData.int) g).bind fin2 = _
  rw [compF2_irg lo1 n1 t v (irg lo n) fun x hx => by
    obtain ⟨x1, x2⟩ := mem_irg.mp hx
    obtain ⟨ρ1, h1, h2, h3⟩ := h x x1 x2
    exact ⟨ρ1, h1, h2, fun y hy => h3 y (mem_irg.mp hy).1 (mem_irg.mp hy).2⟩]
  show (if _ then _ else _) = _
  rw [if_pos]
  have := flat_len (f := fun x => ((irg (lo1 x) (n1 x)).filter (t x)).map (v x)) (k := k) (irg lo n) fun x hx => by
    obtain ⟨x1, x2⟩ := mem_irg.mp hx
    rw [List.length_map]
    refine Nat.le_trans (List.length_filter_le _ _) ?_
    rw [irg_len]
    exact hk x x1 x2
  rw [irg_len] at this
  exact Nat.le_trans this hl
theorem atI_irg {f : Int → Int} {n : Nat} {j : Int} (h0 : 0 ≤ j) (h1 : j < n) : atI (((irg 0 n).map f).map PyData.int) j = some (.int (f j)) := by
  rw [atI_n h0, List.getElem?_map, List.getElem?_map, irg_get (by omega)]
  have e : (0 : Int) + ((j.toNat : Nat) : Int) = j := by omega
  rw [e]
  rfl
theorem compF_map {α : Type} (F : α → D) {b : BF} {ft : TF} {fe : EF} {ρ : RS} {g : G} (t : α → Bool) (v : α → D) : ∀ (xs : List α)
    (h : ∀ x ∈ xs, ∃ ρ1, b (F x) ρ = some ρ1 ∧ ft ρ1 g = .ok (t x) g ∧ (t x = true → fe ρ1 g = .ok (v x) g ∧ noTok [v x] = true)),
    compF b ft fe ρ (xs.map F) g = .ok ((xs.filter t).map v) g
  | [], _ => rfl
  | x :: xs, h => by
    obtain ⟨ρ1, h1, h2, h3⟩ := h x List.mem_cons_self
    have ih := compF_map F t v xs fun y hy => h y (List.mem_cons_of_mem _ hy)
    rw [List.map_cons]
    cases k : t x with
    | false =>
      rw [k] at h2
      simp only [compF, h1, h2, ih]
      rw [List.filter_cons_of_neg (by rw [k]; decide)]
    | true =>
      rw [k] at h2
      obtain ⟨h4, h5⟩ := h3 k
      simp only [compF, h1, h2, h4, h5, ih, if_true]
      rw [List.filter_cons_of_pos k]
      rfl
theorem comp_map {α : Type} (F : α → D) {vs : List Nat} {fi : LF} {b : BF} {ft : TF} {fe : EF} {ρ : RS} {g : G} {xs : List α} (t : α → Bool) (v : α → D) (hi : fi ρ g = .ok (xs.map F) g) (hl : xs.length ≤ 1000000)
    (h : ∀ x ∈ xs, ∃ ρ1, b (F x) (wipeR ρ vs) = some ρ1 ∧ ft ρ1 g = .ok (t x) g ∧ (t x = true → fe ρ1 g = .ok (v x) g ∧ noTok [v x] = true)) :
    oComp vs fi b ft fe ρ g = .ok ((xs.filter t).map v) g := by
  show (fi ρ g).bind _ = _
  rw [hi, bind_ok]
  rw [if_pos (by rw [List.length_map]; exact hl)]
  exact compF_map F t v xs h
theorem comp_mapA {α : Type} (F : α → D) {vs : List Nat} {fi : LF} {b : BF} {fe : EF} {ρ : RS} {g : G} {xs : List α} (v : α → D) (hi : fi ρ g = .ok (xs.map F) g) (hl : xs.length ≤ 1000000)
    (h : ∀ x ∈ xs, ∃ ρ1, b (F x) (wipeR ρ vs) = some ρ1 ∧ fe ρ1 g = .ok (v x) g ∧ noTok [v x] = true) :
    oComp vs fi b tYesF fe ρ g = .ok (xs.map v) g := by
  rw [comp_map F (fun _ => true) v hi hl fun x hx => by
    obtain ⟨ρ1, k1, k2, k3⟩ := h x hx
    exact ⟨ρ1, k1, rfl, fun _ => ⟨k2, k3⟩⟩]
  rw [List.filter_eq_self.mpr fun _ _ => rfl]
theorem for_brk {b : BF} {f : SF} (items : List D) (P : Nat → RS → G → Prop) (Q : RS → G → Prop)
    (h : ∀ i (hi : i < items.length) ρ g, P i ρ g → ∃ ρ1, b items[i] ρ = some ρ1 ∧ ((∃ ρ2 g2, (f ρ1 g = .nx ρ2 g2 ∨ f ρ1 g = .ct ρ2 g2) ∧ P (i + 1) ρ2 g2) ∨ ∃ ρ2 g2, f ρ1 g = .bk ρ2 g2 ∧ Q ρ2 g2)) (hend : ∀ ρ g, P items.length ρ g → Q ρ g) :
    ∀ ρ g, P 0 ρ g → ∃ ρ' g', Q ρ' g' ∧ forL b f items ρ g = .nx ρ' g' := by
  have go : ∀ (k : Nat) (xs : List D) (i : Nat), items.drop i = xs → xs.length = k → i ≤ items.length → ∀ ρ g, P i ρ g → ∃ ρ' g', Q ρ' g' ∧ forL b f xs ρ g = .nx ρ' g' := by
    intro k
    induction k with
    | zero =>
      intro xs i e hl hi ρ g p
      have : xs = [] := List.length_eq_zero_iff.mp hl
      subst this
      have : i = items.length := by
        have := congrArg List.length e
        rw [List.length_drop] at this
        simp at this
        omega
      subst this
      exact ⟨ρ, g, hend ρ g p, rfl⟩
    | succ k ih =>
      intro xs i e hl hi ρ g p
      have hlt : i < items.length := by
        have := congrArg List.length e
        rw [List.length_drop] at this
        omega
      rw [List.drop_eq_getElem_cons hlt] at e
      subst e
      obtain ⟨ρ1, h1, h2⟩ := h i hlt ρ g p
      rcases h2 with ⟨ρ2, g2, h2, h3⟩ | ⟨ρ2, g2, h2, h3⟩
      · obtain ⟨ρ', g', h4, h5⟩ := ih (items.drop (i + 1)) (i + 1) rfl (by rw [List.length_cons] at hl; omega) (by omega) ρ2 g2 h3
        refine ⟨ρ', g', h4, ?_⟩
        unfold forL
        rw [h1]
        rcases h2 with h2 | h2
        · simp only [h2]; exact h5
        · simp only [h2]; exact h5
      · refine ⟨ρ2, g2, h3, ?_⟩
        unfold forL
        rw [h1]
        simp only [h2]
  intro ρ g p
  exact go items.length items 0 rfl rfl (Nat.zero_le _) ρ g p
theorem sFor_brk {fi : LF} {b : BF} {f : SF} {items : List D} {ρ : RS} {g g1 : G} (P : Nat → RS → G → Prop) (Q : RS → G → Prop) (hi : fi ρ g = .ok items g1) (p : P 0 ρ g1)
    (h : ∀ i (hi : i < items.length) ρ g, P i ρ g → ∃ ρ1, b items[i] ρ = some ρ1 ∧ ((∃ ρ2 g2, (f ρ1 g = .nx ρ2 g2 ∨ f ρ1 g = .ct ρ2 g2) ∧ P (i + 1) ρ2 g2) ∨ ∃ ρ2 g2, f ρ1 g = .bk ρ2 g2 ∧ Q ρ2 g2)) (hend : ∀ ρ g, P items.length ρ g → Q ρ g) :
    ∃ ρ' g', Q ρ' g' ∧ sFor fi b f ρ g = .nx ρ' g' := by
  obtain ⟨ρ', g', h1, h2⟩ := for_brk items P Q h hend ρ g1 p
  refine ⟨ρ', g', h1, ?_⟩
  unfold sFor
  rw [hi]
  exact h2
def bd (n : Nat) (x : Int) : Prop := x.natAbs < 2 ^ n
theorem bd.mono {n m : Nat} {x : Int} (h : bd n x) (hm : n ≤ m) : bd m x := Nat.lt_of_lt_of_le h (Nat.pow_le_pow_right (by decide) hm)
theorem bd.mul {n m : Nat} {x y : Int} (h : bd n x) (k : bd m y) : bd (n + m) (x * y) := by
  unfold bd at *
  rw [Int.natAbs_mul, Nat.pow_add]
  exact Nat.mul_lt_mul'' h k
theorem bd.add {n : Nat} {x y : Int} (h : bd n x) (k : bd n y) : bd (n + 1) (x + y) := by
  unfold bd at *
  rw [Nat.pow_succ]
  omega
theorem bd.sub {n : Nat} {x y : Int} (h : bd n x) (k : bd n y) : bd (n + 1) (x - y) := by
  unfold bd at *
  rw [Nat.pow_succ]
  omega
theorem bd.neg {n : Nat} {x : Int} (h : bd n x) : bd n (-x) := by
  unfold bd at *
  rw [Int.natAbs_neg]
  exact h
theorem bd.le {n : Nat} {x y : Int} (h : bd n x) (k : y.natAbs ≤ x.natAbs) : bd n y := Nat.lt_of_le_of_lt k h
theorem bd.log {n : Nat} {x : Int} (h : bd n x) (hn : 0 < n) : x.natAbs.log2 < n := by
  by_cases hz : x.natAbs = 0
  · rw [hz]; exact hn
  · exact (Nat.log2_lt hz).mpr h
theorem opMul_bd {i j : Int} {g : G} {n m : Nat} (h1 : bd n i) (h2 : bd m j) (hn : n + m ≤ 100000) : opMul (.int i) (.int j) g = .ok (.int (i * j)) g := by
  refine opMul_ok (.inr (.inr ?_))
  have := (h1.mono (Nat.le_succ n)).log (Nat.succ_pos n)
  have := (h2.mono (Nat.le_succ m)).log (Nat.succ_pos m)
  omega
theorem opDiv_bd {i j : Int} {g : G} {n : Nat} (h0 : 0 < j) (h1 : bd n j) (hn : n < 9000) : opDiv (.int i) (.int j) g = .ok (.int (i / j)) g := by
  have := (h1.mono (Nat.le_succ n)).log (Nat.succ_pos n)
  show (if _ then _ else _) = _
  rw [if_pos (.inr ⟨h0, by omega⟩), Int.fdiv_eq_ediv_of_nonneg i (by omega)]
theorem gcd_step {a b : Int} : Int.gcd b (a % b) = Int.gcd a b := by
  rw [Int.emod_def, Int.gcd_comm a b]
  exact Int.gcd_sub_mul_left_right ..
def euc (m : Nat) (c d : Int) : Prop := 0 ≤ c ∧ 0 ≤ d ∧ (d = 0 ∨ (c.natAbs * d.natAbs < 2 ^ m ∧ (d < c ∨ 2 * (c.natAbs * d.natAbs + 1) ≤ 2 ^ m)))
theorem euc_step {m : Nat} {c d : Int} (h : euc m c d) (hd : d ≠ 0) : 0 < m ∧ euc (m - 1) d (c % d) := by
  obtain ⟨h1, h2, h3⟩ := h
  have hd0 : 0 < d := by omega
  have r0 : 0 ≤ c % d := Int.emod_nonneg _ hd
  have r1 : c % d < d := Int.emod_lt_of_pos _ hd0
  have h3 := h3.resolve_left hd
  obtain ⟨C, rfl⟩ : ∃ C : Nat, c = C := ⟨c.toNat, by omega⟩
  obtain ⟨E, rfl⟩ : ∃ E : Nat, d = E := ⟨d.toNat, by omega⟩
  obtain ⟨R, hR⟩ : ∃ R : Nat, (C : Int) % E = R := ⟨((C : Int) % E).toNat, by omega⟩
  rw [hR] at r0 r1 ⊢
  have hq : ∃ q : Nat, C = E * q + R := ⟨C / E, by
    have : ((C % E : Nat) : Int) = R := by rw [← hR]; rfl
    have : C % E = R := by omega
    rw [← this]
    exact (Nat.div_add_mod C E).symm⟩
  obtain ⟨q, hq⟩ := hq
  simp only [Int.natAbs_natCast] at h3 ⊢
  have hRE : R < E := by omega
  have key : 2 * (E * R) < 2 ^ m := by
    rcases h3 with ⟨h4, h5 | h5⟩
    · have hqp : 0 < q := by
        rcases Nat.eq_zero_or_pos q with z | z
        · subst z; omega
        · exact z
      have hEC : E + R ≤ C := by
        have : E * 1 ≤ E * q := Nat.mul_le_mul_left E hqp
        omega
      have h6 : 2 * R ≤ C := by omega
      have : E * (2 * R) ≤ E * C := Nat.mul_le_mul_left E h6
      rw [Nat.mul_comm C E] at h4
      have e : E * (2 * R) = 2 * (E * R) := by rw [Nat.mul_left_comm]
      omega
    · have : E * R ≤ E * C := Nat.mul_le_mul_left E (by
        have : 0 ≤ E * q := Nat.zero_le _
        omega)
      rw [Nat.mul_comm C E] at h5
      omega
  cases m with
  | zero =>
    exfalso
    rcases h3 with ⟨h4, h5 | h5⟩
    · have : 0 < C * E := Nat.mul_pos (by omega) (by omega)
      omega
    · omega
  | succ m =>
    rw [Nat.pow_succ] at key
    refine ⟨Nat.succ_pos m, by omega, by omega, .inr ⟨?_, .inl (by omega)⟩⟩
    simp only [Int.natAbs_natCast, Nat.add_sub_cancel]
    omega
theorem euc_of {a b : Int} {n m : Nat} (ha : 0 ≤ a) (hb : 0 ≤ b) (h1 : bd n a) (h2 : bd m b) : euc (n + m + 1) a b := by
  refine ⟨ha, hb, .inr ?_⟩
  have := h1.mul h2
  unfold bd at this
  rw [Int.natAbs_mul] at this
  rw [Nat.pow_succ]
  omega
def rp (q : Rat) : Int × Int := (q.num, (q.den : Int))
theorem rp_inj {p q : Rat} (h : rp p = rp q) : p = q := by
  unfold rp at h
  rw [Prod.mk.injEq] at h
  exact Rat.ext h.1 (by omega)
theorem rp_divInt {n d : Int} (hd : 0 < d) : rp (Rat.divInt n d) = (n / (Int.gcd n d : Int), d / (Int.gcd n d : Int)) := by
  have hn := Rat.num_divInt n d
  have hq := Rat.den_divInt n d
  rw [if_neg (by omega)] at hq
  unfold rp
  rw [hn, hq, Int.gcd_comm d n, Int.sign_eq_one_of_pos hd, Int.one_mul]
  congr 1
  rw [Int.natCast_ediv, Int.natAbs_of_nonneg (by omega)]
theorem rp_den_pos {q : Rat} : 0 < (rp q).2 := by
  have := q.den_pos
  show 0 < (q.den : Int)
  omega
theorem rp_self {q : Rat} : Rat.divInt (rp q).1 (rp q).2 = q := Rat.num_divInt_den q
theorem rp_add {p q : Rat} : Rat.divInt ((rp p).1 * (rp q).2 + (rp q).1 * (rp p).2) ((rp p).2 * (rp q).2) = p + q := by
  have h1 := p.den_nz
  have h2 := q.den_nz
  have := Rat.divInt_add_divInt p.num q.num (d₁ := p.den) (d₂ := q.den) (by omega) (by omega)
  rw [Rat.num_divInt_den, Rat.num_divInt_den] at this
  exact this.symm
mutual
def eqD : D → D → Bool
  | .int a, .int b => decide (a = b)
  | .bool a, .bool b => a == b
  | .none, .none => true
  | .str a, .str b => decide (a = b)
  | .tuple xs, .tuple ys => eqDs xs ys
  | .list xs, .list ys => eqDs xs ys
  | _, _ => false
def eqDs : List D → List D → Bool
  | [], [] => true
  | x :: xs, y :: ys => eqD x y && eqDs xs ys
  | _, _ => false
end
mutual
theorem eqD_of : ∀ (a b : D), eqD a b = true → a = b
  | .int a, .int b, h => by rw [eqD, decide_eq_true_eq] at h; rw [h]
  | .bool a, .bool b, h => by rw [eqD, beq_iff_eq] at h; rw [h]
  | .none, .none, _ => rfl
  | .str a, .str b, h => by rw [eqD, decide_eq_true_eq] at h; rw [h]
  | .tuple xs, .tuple ys, h => by rw [eqD] at h; rw [eqDs_of xs ys h]
  | .list xs, .list ys, h => by rw [eqD] at h; rw [eqDs_of xs ys h]
  | .int _, .bool _, h | .int _, .none, h | .int _, .str _, h | .int _, .tuple _, h | .int _, .list _, h => by simp [eqD] at h
  | .bool _, .int _, h | .bool _, .none, h | .bool _, .str _, h | .bool _, .tuple _, h | .bool _, .list _, h => by simp [eqD] at h
  | .none, .int _, h | .none, .bool _, h | .none, .str _, h | .none, .tuple _, h | .none, .list _, h => by simp [eqD] at h
  | .str _, .int _, h | .str _, .bool _, h | .str _, .none, h | .str _, .tuple _, h | .str _, .list _, h => by simp [eqD] at h
  | .tuple _, .int _, h | .tuple _, .bool _, h | .tuple _, .none, h | .tuple _, .str _, h | .tuple _, .list _, h => by simp [eqD] at h
  | .list _, .int _, h | .list _, .bool _, h | .list _, .none, h | .list _, .str _, h | .list _, .tuple _, h => by simp [eqD] at h
  | .int _, .dict _, h | .bool _, .dict _, h | .none, .dict _, h | .str _, .dict _, h | .tuple _, .dict _, h | .list _, .dict _, h => by simp [eqD] at h
  | .dict _, b, h => by simp [eqD] at h
theorem eqDs_of : ∀ (a b : List D), eqDs a b = true → a = b
  | [], [], _ => rfl
  | x :: xs, y :: ys, h => by
    rw [eqDs, Bool.and_eq_true] at h
    rw [eqD_of x y h.1, eqDs_of xs ys h.2]
  | [], _ :: _, h => by simp [eqDs] at h
  | _ :: _, [], h => by simp [eqDs] at h
end
def okD (o : Out D) (d : D) : Bool := match o with
  | .ok x _ => eqD x d
  | _ => false
theorem okD_of {m : List D → G → Out D} (h : GP1 m) {ds : List D} {d : D} {g' : G} (e : okD (m ds g') d = true) (g : G) : m ds g = .ok d g := by
  cases q : m ds g' with
  | ok x g1 =>
    rw [q] at e
    rw [gp_ok h q g, eqD_of x d e]
  | _ => rw [q] at e; cases e
end DL
namespace DL
open PySem
open PySem.Spec
open PyProof.Rows
open L2
theorem le_int (a b : Int) : PySem.W.dataLe (β := D) false id (.int a) (.int b) = decide (a ≤ b) := congrFun (congrFun (PySem.W.dataLe_int (fun b : Int => b)) a) b
theorem le_ii (p q : Int × Int) : PySem.W.dataLe (β := D) false id (dP p) (dP q) = decide (p.1 < q.1 ∨ (p.1 = q.1 ∧ p.2 ≤ q.2)) := congrFun (congrFun (PySem.W.dataLe_ii (fun b : Int × Int => b.1) (fun b => b.2)) p) q
def insI (x : Int) : List Int → List Int
  | [] => [x]
  | y :: r => if x ≤ y then x :: y :: r else y :: insI x r
def sortZ : List Int → List Int
  | [] => []
  | x :: r => insI x (sortZ r)
theorem insD_int {x : Int} : ∀ l : List Int, insD (.int x) (l.map .int) = (insI x l).map .int
  | [] => rfl
  | y :: r => by
    show (if PySem.W.dataLe false id (.int x) (.int y) = true then _ else _) = _
    rw [le_int, insD_int r, show insI x (y :: r) = if x ≤ y then x :: y :: r else y :: insI x r from rfl]
    by_cases h : x ≤ y
    · rw [if_pos (decide_eq_true h), if_pos h]
      rfl
    · rw [if_neg (by rw [decide_eq_false h]; decide), if_neg h]
      rfl
theorem sortD_int : ∀ l : List Int, sortD (l.map .int) = (sortZ l).map .int
  | [] => rfl
  | x :: r => by
    show insD (.int x) (sortD (r.map .int)) = _
    rw [sortD_int r, insD_int]
    rfl
theorem insI_mem {x z : Int} : ∀ l : List Int, z ∈ insI x l ↔ z = x ∨ z ∈ l
  | [] => by simp [insI]
  | y :: r => by
    unfold insI
    split
    · simp
    · simp only [List.mem_cons, insI_mem r]
      grind
theorem sortZ_mem {z : Int} : ∀ l : List Int, z ∈ sortZ l ↔ z ∈ l
  | [] => Iff.rfl
  | x :: r => by
    show z ∈ insI x (sortZ r) ↔ _
    rw [insI_mem, sortZ_mem r, List.mem_cons]
theorem insI_asc {x : Int} : ∀ l : List Int, l.Pairwise (· < ·) → x ∉ l → (insI x l).Pairwise (· < ·)
  | [], _, _ => .cons (fun _ h => nomatch h) .nil
  | y :: r, h, hx => by
    cases h with
    | cons h1 h2 =>
      unfold insI
      rw [List.mem_cons, not_or] at hx
      split
      · refine .cons (fun z hz => ?_) (.cons h1 h2)
        rcases List.mem_cons.mp hz with rfl | hz
        · omega
        · have := h1 z hz
          omega
      · refine .cons (fun z hz => ?_) (insI_asc r h2 hx.2)
        rcases (insI_mem r).mp hz with rfl | hz
        · omega
        · exact h1 z hz
theorem sortZ_asc : ∀ l : List Int, l.Nodup → (sortZ l).Pairwise (· < ·)
  | [], _ => .nil
  | x :: r, h => by
    rw [List.nodup_cons] at h
    exact insI_asc _ (sortZ_asc r h.2) fun hm => h.1 ((sortZ_mem r).mp hm)
theorem asc_uniq : ∀ {l m : List Int}, l.Pairwise (· < ·) → m.Pairwise (· < ·) → (∀ z, z ∈ l ↔ z ∈ m) → l = m
  | [], [], _, _, _ => rfl
  | [], y :: m, _, _, h => absurd ((h y).mpr List.mem_cons_self) (by simp)
  | x :: l, [], _, _, h => absurd ((h x).mp List.mem_cons_self) (by simp)
  | x :: l, y :: m, .cons a1 a2, .cons b1 b2, h => by
    have hxy : x = y := by
      rcases List.mem_cons.mp ((h x).mp List.mem_cons_self) with e | e
      · exact e
      · rcases List.mem_cons.mp ((h y).mpr List.mem_cons_self) with e2 | e2
        · exact e2.symm
        · have := a1 y e2
          have := b1 x e
          omega
    subst hxy
    rw [asc_uniq a2 b2 fun z => ?_]
    have hz := h z
    simp only [List.mem_cons] at hz
    constructor
    · intro k
      rcases hz.mp (.inr k) with rfl | e
      · exact absurd (a1 _ k) (by omega)
      · exact e
    · intro k
      rcases hz.mpr (.inr k) with rfl | e
      · exact absurd (b1 _ k) (by omega)
      · exact e
theorem irg_asc {lo : Int} {n : Nat} : (irg lo n).Pairwise (· < ·) := by
  unfold irg
  rw [List.pairwise_map]
  exact List.Pairwise.imp (fun h => by omega) List.pairwise_lt_range
theorem sortD_asc : ∀ l : List (Int × Int), (l.Pairwise fun x y => x.1 < y.1) → sortD (l.map dP) = l.map dP
  | [], _ => rfl
  | [x], _ => rfl
  | x :: y :: r, .cons h1 h2 => by
    show insD (dP x) (sortD ((y :: r).map dP)) = _
    rw [sortD_asc (y :: r) h2]
    show (if PySem.W.dataLe false id (dP x) (dP y) = true then _ else _) = _
    rw [le_ii, if_pos (decide_eq_true (.inl (h1 y List.mem_cons_self)))]
    rfl
theorem sortOk_int : ∀ l : List Int, sortOk (l.map .int) = true := by
  intro l
  unfold sortOk
  rw [Bool.or_eq_true, Bool.or_eq_true]
  refine .inl (.inl ?_)
  rw [List.all_eq_true]
  intro x hx
  obtain ⟨i, _, rfl⟩ := List.mem_map.mp hx
  rfl
theorem bSort_int {l : List Int} {g : G} : bSortA [.list (l.map .int)] g = .ok (.list ((sortZ l).map .int)) g := by
  show (if sortOk (l.map .int) = true then _ else _) = _
  rw [if_pos (sortOk_int l), sortD_int]
theorem last_of {lo : Int} {n : Nat} {t : Int → Bool} {s : Int} (h0 : lo ≤ s) (h1 : s < lo + n) (hs : t s = true) (hm : ∀ x, s < x → x < lo + n → t x = false) : ∃ A, (irg lo n).filter t = A ++ [s] := by
  have e : irg lo n = irg lo (s - lo).toNat ++ s :: irg (s + 1) (lo + n - s - 1).toNat := by
    refine asc_uniq irg_asc ?_ fun z => ?_
    · rw [List.pairwise_append]
      refine ⟨irg_asc, .cons (fun z hz => ?_) irg_asc, fun x hx y hy => ?_⟩
      · have := mem_irg.mp hz
        omega
      · have := mem_irg.mp hx
        rcases List.mem_cons.mp hy with rfl | hy
        · omega
        · have := mem_irg.mp hy
          omega
    · rw [List.mem_append, List.mem_cons, mem_irg, mem_irg, mem_irg]
      omega
  refine ⟨(irg lo (s - lo).toNat).filter t, ?_⟩
  rw [e, List.filter_append, List.filter_cons_of_pos hs]
  congr 2
  rw [List.filter_eq_nil_iff]
  intro x hx
  have := mem_irg.mp hx
  rw [hm x (by omega) (by omega)]
  decide
theorem one_of {lo : Int} {n : Nat} {t : Int → Bool} {s : Int} (h0 : lo ≤ s) (h1 : s < lo + n) (hm : ∀ x, lo ≤ x → x < lo + n → (t x = true ↔ x = s)) : (irg lo n).filter t = [s] := by
  refine asc_uniq (irg_asc.filter _) (.cons (fun _ h => nomatch h) .nil) fun z => ?_
  rw [List.mem_filter, mem_irg, List.mem_singleton]
  constructor
  · rintro ⟨⟨a, b⟩, c⟩
    exact (hm z a b).mp c
  · rintro rfl
    exact ⟨⟨h0, h1⟩, (hm z h0 h1).mpr rfl⟩
theorem eqv_int {a b : Int} : PyData.eqv (.int a) (.int b) = decide (a = b) := by
  have h := opEq_int (i := a) (j := b) (g := ((0, []) : G))
  rw [opEq_shp shp_int shp_int] at h
  injection h with h
  injection h
theorem in2t {i a b : Int} {g : G} : opIn false (.int i) (.tuple [.int a, .int b]) g = .ok (.bool (decide (a = i ∨ b = i))) g := by
  show (if flatD (.int i) = true ∧ [PyData.int a, PyData.int b].all flatD = true then Out.ok (PyData.bool ([PyData.int a, PyData.int b].any fun z => PyData.eqv z (.int i))) g else .bad) = _
  rw [if_pos ⟨rfl, rfl⟩]
  congr 2
  simp only [List.any_cons, List.any_nil, eqv_int, Bool.or_false, Bool.decide_or]
theorem in2l {i a b : Int} {g : G} : opIn false (.int i) (.list [.int a, .int b]) g = .ok (.bool (decide (a = i ∨ b = i))) g := by
  show (if shp (.int i) = true ∧ shp (.list [.int a, .int b]) = true then Out.ok (PyData.bool ([PyData.int a, PyData.int b].any fun z => PyData.eqv z (.int i))) g else .bad) = _
  rw [if_pos ⟨rfl, by
    refine (lay_list (k := 0) fun x hx => ?_).shp (by decide)
    rcases List.mem_cons.mp hx with rfl | hx
    · exact lay_int
    · rw [List.mem_singleton] at hx
      subst hx
      exact lay_int⟩]
  congr 2
  simp only [List.any_cons, List.any_nil, eqv_int, Bool.or_false, Bool.decide_or]
theorem compF2_map {α β : Type} (F : α → D) (F1 : β → D) {vs1 : List Nat} {b b1 : BF} {fi1 : LF} {ft1 : TF} {fe : EF} {ρ : RS} {g : G} (ys : α → List β) (t : α → β → Bool) (v : α → β → D) : ∀ (xs : List α)
    (h : ∀ x ∈ xs, ∃ ρ1, b (F x) ρ = some ρ1 ∧ fi1 ρ1 g = .ok ((ys x).map F1) g ∧ ∀ y ∈ ys x, ∃ ρ2, b1 (F1 y) (wipeR ρ1 vs1) = some ρ2 ∧ ft1 ρ2 g = .ok (t x y) g ∧ (t x y = true → fe ρ2 g = .ok (v x y) g ∧ noTok [v x y] = true)),
    compF2 vs1 b tYesF fi1 b1 ft1 fe ρ (xs.map F) g = .ok (xs.flatMap fun x => ((ys x).filter (t x)).map (v x)) g
  | [], _ => rfl
  | x :: xs, h => by
    obtain ⟨ρ1, h1, h2, h3⟩ := h x List.mem_cons_self
    have ih := compF2_map F F1 (vs1 := vs1) (b := b) (b1 := b1) (fi1 := fi1) (ft1 := ft1) (fe := fe) (ρ := ρ) (g := g) ys t v xs fun y hy => h y (List.mem_cons_of_mem _ hy)
    rw [List.map_cons]
    have hc := compF_map F1 (t x) (v x) (ys x) h3
    simp only [compF2, h1, tYesF, h2, hc, bind_ok, ih]
    rw [List.flatMap_cons]
theorem comp2_map {α β : Type} (F : α → D) (F1 : β → D) {vs vs1 : List Nat} {fi : LF} {b b1 : BF} {fi1 : LF} {ft1 : TF} {fe : EF} {ρ : RS} {g : G} {xs : List α} (ys : α → List β) (t : α → β → Bool) (v : α → β → D) (hi : fi ρ g = .ok (xs.map F) g) (hl : (xs.flatMap fun x => ((ys x).filter (t x)).map (v x)).length ≤ 1000000)
    (h : ∀ x ∈ xs, ∃ ρ1, b (F x) (wipeR ρ vs) = some ρ1 ∧ fi1 ρ1 g = .ok ((ys x).map F1) g ∧ ∀ y ∈ ys x, ∃ ρ2, b1 (F1 y) (wipeR ρ1 vs1) = some ρ2 ∧ ft1 ρ2 g = .ok (t x y) g ∧ (t x y = true → fe ρ2 g = .ok (v x y) g ∧ noTok [v x y] = true)) :
    oComp2 vs vs1 fi b tYesF fi1 b1 ft1 fe ρ g = .ok (xs.flatMap fun x => ((ys x).filter (t x)).map (v x)) g := by
  show (fi ρ g).bind _ = _
  rw [hi]
  show (compF2 vs1 b tYesF fi1 b1 ft1 fe (wipeR ρ vs) (xs.map F) g).bind fin2 = _
  rw [compF2_map F F1 ys t v xs h]
  show (if _ then _ else _) = _
  rw [if_pos]
  exact hl
theorem asc_len : ∀ {l : List Int} {lo : Int} {n : Nat}, l.Pairwise (· < ·) → (∀ x ∈ l, lo ≤ x ∧ x < lo + n) → l.length ≤ n
  | [], _, n, _, _ => Nat.zero_le n
  | x :: l, lo, 0, _, h => by
    have := h x List.mem_cons_self
    omega
  | x :: l, lo, n + 1, .cons h1 h2, h => by
    have hx := h x List.mem_cons_self
    have := asc_len (l := l) (lo := lo + 1) (n := n) h2 fun y hy => by
      have := h y (List.mem_cons_of_mem _ hy)
      have := h1 y hy
      omega
    rw [List.length_cons]
    omega
theorem insI_len {x : Int} : ∀ l : List Int, (insI x l).length = l.length + 1
  | [] => rfl
  | y :: r => by
    rw [show insI x (y :: r) = if x ≤ y then x :: y :: r else y :: insI x r from rfl]
    split
    · rfl
    · rw [List.length_cons, insI_len r, List.length_cons]
theorem sortZ_len : ∀ l : List Int, (sortZ l).length = l.length
  | [] => rfl
  | x :: r => by
    show (insI x (sortZ r)).length = _
    rw [insI_len, sortZ_len r, List.length_cons]
theorem sortOk_dP (l : List (Int × Int)) : sortOk (l.map dP) = true := by
  unfold sortOk
  rw [Bool.or_eq_true, Bool.or_eq_true]
  refine .inl (.inr ?_)
  rw [List.all_eq_true]
  intro x hx
  obtain ⟨p, _, rfl⟩ := List.mem_map.mp hx
  rfl
theorem bSort_dP {l : List (Int × Int)} {g : G} (h : l.Pairwise fun x y => x.1 < y.1) : bSortA [.list (l.map dP)] g = .ok (.list (l.map dP)) g := by
  show (if sortOk (l.map dP) = true then _ else _) = _
  rw [if_pos (sortOk_dP l), sortD_asc l h]
theorem pigeon {c : Nat → Int} {N : Nat} (h : ∀ i, i ≤ N → 0 ≤ c i ∧ c i < N) : ∃ i j, i < j ∧ j ≤ N ∧ c i = c j := by
  by_cases hn : ((List.range (N + 1)).map c).Nodup
  · exfalso
    have h1 := asc_len (lo := 0) (n := N) (sortZ_asc _ hn) fun x hx => by
      rw [sortZ_mem] at hx
      obtain ⟨i, hi, rfl⟩ := List.mem_map.mp hx
      rw [List.mem_range] at hi
      have := h i (by omega)
      omega
    rw [sortZ_len, List.length_map, List.length_range] at h1
    omega
  · have h2 : ¬ ((List.range (N + 1)).Pairwise fun i j => c i ≠ c j) := fun hp => hn (List.pairwise_map.mpr hp)
    by_cases hx : ∃ i j, i < j ∧ j ≤ N ∧ c i = c j
    · exact hx
    · exfalso
      refine h2 (List.Pairwise.imp_of_mem (fun {i j} hi hj hij e => hx ⟨i, j, hij, by rw [List.mem_range] at hj; omega, e⟩) List.pairwise_lt_range)
theorem sSeq_as (f h k : SF) (ρ : RS) (g : G) : sSeq f (sSeq h k) ρ g = sSeq (sSeq f h) k ρ g := by
  rw [sSeq_th f, sSeq_th (sSeq f h), sSeq_th f h]
  cases f ρ g with
  | nx ρ1 g1 => rw [th_nx, th_nx, sSeq_th]
  | _ => rfl
theorem seq_P {f k : SF} {ρ ρ1 : RS} {g g1 : G} {P : SO → Prop} (h : f ρ g = .nx ρ1 g1) (h2 : P (k ρ1 g1)) : P (sSeq f k ρ g) := by
  rw [seq_nx h rfl]
  exact h2
end DL
namespace K19
open PySem
open PySem.Spec
open PyProof.Rows
open L2
open DL
def sm : Nat → (Nat → Int) → Int
  | 0, _ => 0
  | n + 1, f => sm n f + f n
theorem sm_congr {f h : Nat → Int} : ∀ {n : Nat}, (∀ i, i < n → f i = h i) → sm n f = sm n h
  | 0, _ => rfl
  | n + 1, e => by
    show sm n f + f n = sm n h + h n
    rw [sm_congr fun i hi => e i (by omega), e n (by omega)]
theorem sm_zero : ∀ n, sm n (fun _ => 0) = 0
  | 0 => rfl
  | n + 1 => by
    show sm n (fun _ => 0) + 0 = 0
    rw [sm_zero n]
    rfl
theorem sm_add {f h : Nat → Int} : ∀ n, sm n (fun i => f i + h i) = sm n f + sm n h
  | 0 => rfl
  | n + 1 => by
    show sm n (fun i => f i + h i) + (f n + h n) = (sm n f + f n) + (sm n h + h n)
    rw [sm_add n]
    omega
theorem sm_sub {f h : Nat → Int} : ∀ n, sm n (fun i => f i - h i) = sm n f - sm n h
  | 0 => rfl
  | n + 1 => by
    show sm n (fun i => f i - h i) + (f n - h n) = (sm n f + f n) - (sm n h + h n)
    rw [sm_sub n]
    omega
theorem sm_mul {f : Nat → Int} {c : Int} : ∀ n, sm n (fun i => c * f i) = c * sm n f
  | 0 => (Int.mul_zero c).symm
  | n + 1 => by
    show sm n (fun i => c * f i) + c * f n = c * (sm n f + f n)
    rw [sm_mul n, Int.mul_add]
theorem sm_mulr {f : Nat → Int} {c : Int} {n : Nat} : sm n (fun i => f i * c) = sm n f * c := by
  rw [Int.mul_comm, ← sm_mul]
  exact sm_congr fun i _ => Int.mul_comm _ _
theorem sm_swap {f : Nat → Nat → Int} {m : Nat} : ∀ n, sm n (fun i => sm m (fun j => f i j)) = sm m (fun j => sm n (fun i => f i j))
  | 0 => (sm_zero m).symm
  | n + 1 => by
    show sm n (fun i => sm m (fun j => f i j)) + sm m (fun j => f n j) = sm m (fun j => sm n (fun i => f i j) + f n j)
    rw [sm_swap n, ← sm_add]
theorem sm_one {g : Nat → Int} {m : Nat} : ∀ {n : Nat}, m < n → sm n (fun i => if i = m then g i else 0) = g m
  | 0, h => by omega
  | n + 1, h => by
    show sm n (fun i => if i = m then g i else 0) + (if n = m then g n else 0) = g m
    by_cases e : n = m
    · subst e
      rw [if_pos rfl, sm_congr (h := fun _ => 0) fun i hi => if_neg (by omega), sm_zero]
      omega
    · rw [if_neg e, sm_one (by omega)]
      omega
def ind (b : Prop) [Decidable b] : Int := if b then 1 else 0
def rt (p i k : Nat) : Int := ind (i % p = k) - ind (i % p = p - 1)
def E (p : Nat) (r g : Nat → Int) : Int := sm (p - 1) fun i => r i * g i
structure Per (p : Nat) (g : Nat → Int) : Prop where
  per : ∀ i, g i = g (i % p)
  sum : sm p g = 0
def mulR (p : Nat) (r s : Nat → Int) : Nat → Int := fun k => sm (p - 1) fun i => sm (p - 1) fun j => r i * s j * rt p (i + j) k
def movR (p : Nat) (r : Nat → Int) (b : Nat) : Nat → Int := fun k => sm (p - 1) fun i => r i * rt p (i * b) k
def one (p : Nat) : Nat → Int := rt p 0
theorem Per.last {p : Nat} {g : Nat → Int} (hp : 2 ≤ p) (h : Per p g) : sm (p - 1) g = - g (p - 1) := by
  have := h.sum
  have e : p = (p - 1) + 1 := by omega
  have e2 : sm p g = sm (p - 1) g + g (p - 1) := by
    conv => lhs; rw [e]
    rfl
  omega
theorem E_rt {p : Nat} {g : Nat → Int} (hp : 2 ≤ p) (h : Per p g) (a : Nat) : E p (rt p a) g = g a := by
  have hm := Nat.mod_lt a (show 0 < p by omega)
  rw [h.per a]
  unfold E
  rcases (by omega : a % p < p - 1 ∨ a % p = p - 1) with z | z
  · rw [← sm_one (g := g) z]
    refine sm_congr fun i hi => ?_
    unfold rt ind
    rw [if_neg (by omega : ¬ a % p = p - 1)]
    by_cases e : i = a % p
    · rw [if_pos e.symm, if_pos e]
      omega
    · rw [if_neg (fun k => e k.symm), if_neg e]
      omega
  · rw [z]
    have := h.last hp
    have e : sm (p - 1) (fun i => rt p a i * g i) = -(sm (p - 1) g) := by
      have : sm (p - 1) (fun i => rt p a i * g i) = sm (p - 1) (fun i => (-1) * g i) := by
        refine sm_congr fun i hi => ?_
        unfold rt ind
        rw [if_neg (by omega : ¬ a % p = i), if_pos z]
        rfl
      rw [this, sm_mul]
      omega
    omega
theorem E_mul {p : Nat} {r s g : Nat → Int} (hp : 2 ≤ p) (h : Per p g) : E p (mulR p r s) g = sm (p - 1) fun i => sm (p - 1) fun j => r i * s j * g (i + j) := by
  have e1 : E p (mulR p r s) g = sm (p - 1) fun m => sm (p - 1) fun i => sm (p - 1) fun j => r i * s j * (rt p (i + j) m * g m) := by
    refine sm_congr fun m _ => ?_
    show (sm (p - 1) fun i => sm (p - 1) fun j => r i * s j * rt p (i + j) m) * g m = _
    rw [← sm_mulr]
    refine sm_congr fun i _ => ?_
    rw [← sm_mulr]
    exact sm_congr fun j _ => Int.mul_assoc _ _ _
  rw [e1, sm_swap]
  refine sm_congr fun i _ => ?_
  rw [sm_swap]
  refine sm_congr fun j _ => ?_
  rw [sm_mul]
  congr 1
  exact E_rt hp h (i + j)
theorem E_mov {p : Nat} {r g : Nat → Int} {b : Nat} (hp : 2 ≤ p) (h : Per p g) : E p (movR p r b) g = sm (p - 1) fun i => r i * g (i * b) := by
  have e1 : E p (movR p r b) g = sm (p - 1) fun m => sm (p - 1) fun i => r i * (rt p (i * b) m * g m) := by
    refine sm_congr fun m _ => ?_
    show (sm (p - 1) fun i => r i * rt p (i * b) m) * g m = _
    rw [← sm_mulr]
    exact sm_congr fun i _ => Int.mul_assoc _ _ _
  rw [e1, sm_swap]
  refine sm_congr fun i _ => ?_
  rw [sm_mul]
  congr 1
  exact E_rt hp h (i * b)
def Inv (p b : Nat) : Prop := ∃ c, b * c % p = 1 % p
theorem hit_one {p b c k : Nat} (hp : 2 ≤ p) (hb : Inv p b) (hk : k < p) : sm p (fun i => ind ((i * b + c) % p = k)) = 1 := by
  obtain ⟨d, hd⟩ := hb
  have hp0 : 0 < p := by omega
  -- the only one: (k + (p - c % p)) * d
  obtain ⟨m, hm⟩ : ∃ m, m = (k + (p - c % p)) * d % p := ⟨_, rfl⟩
  have hc := Nat.mod_lt c hp0
  have hml : m < p := by rw [hm]; exact Nat.mod_lt _ hp0
  have key : ∀ i, i < p → ((i * b + c) % p = k ↔ i = m) := fun i hi => by
    constructor
    · intro h
      have h1 : (i * b + c + (p - c % p)) % p = (k + (p - c % p)) % p := by
        rw [Nat.add_mod, h, Nat.add_mod_mod]
      have h2 : (i * b + c + (p - c % p)) % p = (i * b) % p := by
        have e : i * b + c + (p - c % p) = i * b + p * (c / p + 1) := by
          have := Nat.div_add_mod c p
          rw [Nat.mul_add]
          omega
        rw [e, Nat.add_mul_mod_self_left]
      rw [h2] at h1
      have h3 : (i * b * d) % p = ((k + (p - c % p)) * d) % p := by
        rw [Nat.mul_mod, h1, ← Nat.mul_mod]
      have h4 : (i * b * d) % p = i := by
        rw [Nat.mul_assoc, Nat.mul_mod, hd, ← Nat.mul_mod, Nat.mul_one, Nat.mod_eq_of_lt hi]
      rw [hm, ← h3, h4]
    · intro h
      subst h
      rw [hm]
      have h1 : ((k + (p - c % p)) * d % p * b) % p = (k + (p - c % p)) % p := by
        rw [Nat.mod_mul_mod, Nat.mul_assoc, Nat.mul_comm d b, Nat.mul_mod, hd, ← Nat.mul_mod, Nat.mul_one]
      rw [Nat.add_mod, h1, ← Nat.add_mod]
      have e : k + (p - c % p) + c = k + p * (c / p + 1) := by
        have := Nat.div_add_mod c p
        rw [Nat.mul_add]
        omega
      rw [e, Nat.add_mul_mod_self_left, Nat.mod_eq_of_lt hk]
  have : sm p (fun i => ind ((i * b + c) % p = k)) = sm p (fun i => if i = m then 1 else 0) := by
    refine sm_congr fun i hi => ?_
    unfold ind
    by_cases e : i = m
    · rw [if_pos ((key i hi).mpr e), if_pos e]
    · rw [if_neg (fun h => e ((key i hi).mp h)), if_neg e]
  rw [this]
  exact sm_one (g := fun _ => 1) hml
theorem per_rt {p b c k : Nat} (hp : 2 ≤ p) (hb : Inv p b) (hk : k < p) : Per p (fun i => rt p (i * b + c) k) := by
  refine ⟨fun i => ?_, ?_⟩
  · show rt p (i * b + c) k = rt p (i % p * b + c) k
    unfold rt
    have : (i * b + c) % p = (i % p * b + c) % p := by
      rw [Nat.add_mod, ← Nat.mod_mul_mod i b p, ← Nat.add_mod]
    rw [this]
  · have : sm p (fun i => rt p (i * b + c) k) = sm p (fun i => ind ((i * b + c) % p = k)) - sm p (fun i => ind ((i * b + c) % p = p - 1)) := by
      rw [← sm_sub]
      rfl
    rw [this, hit_one hp hb hk, hit_one hp hb (by omega)]
    rfl
theorem inv_one {p : Nat} : Inv p 1 := ⟨1, rfl⟩
theorem per_rt1 {p c k : Nat} (hp : 2 ≤ p) (hk : k < p) : Per p (fun i => rt p (i + c) k) := by
  have := per_rt (b := 1) (c := c) hp inv_one hk
  have e : (fun i => rt p (i * 1 + c) k) = fun i => rt p (i + c) k := by
    funext i
    rw [Nat.mul_one]
  rw [e] at this
  exact this
theorem Per.lin {p n : Nat} {a : Nat → Int} {f : Nat → Nat → Int} (h : ∀ j, j < n → Per p (f j)) : Per p (fun i => sm n fun j => a j * f j i) := by
  refine ⟨fun i => sm_congr fun j hj => by rw [(h j hj).per i], ?_⟩
  rw [sm_swap, sm_congr (h := fun _ => 0) fun j hj => by rw [sm_mul, (h j hj).sum, Int.mul_zero], sm_zero]
def Eqr (p : Nat) (r s : Nat → Int) : Prop := ∀ k, k < p - 1 → r k = s k
theorem mulR_comm {p : Nat} {r s : Nat → Int} {k : Nat} : mulR p r s k = mulR p s r k := by
  unfold mulR
  rw [sm_swap]
  refine sm_congr fun i _ => sm_congr fun j _ => ?_
  rw [Nat.add_comm, Int.mul_comm (r j)]
theorem mulR_congr {p : Nat} {r s r' s' : Nat → Int} (h1 : Eqr p r r') (h2 : Eqr p s s') {k : Nat} : mulR p r s k = mulR p r' s' k :=
  sm_congr fun i hi => sm_congr fun j hj => by rw [h1 i hi, h2 j hj]
theorem movR_congr {p b : Nat} {r r' : Nat → Int} (h1 : Eqr p r r') {k : Nat} : movR p r b k = movR p r' b k :=
  sm_congr fun i hi => by rw [h1 i hi]
theorem mulR_E {p : Nat} {r s : Nat → Int} {k : Nat} : mulR p r s k = E p r fun i => sm (p - 1) fun j => s j * rt p (i + j) k := by
  refine sm_congr fun i _ => ?_
  rw [← sm_mul]
  exact sm_congr fun j _ => Int.mul_assoc _ _ _
theorem per_sum {p : Nat} {s : Nat → Int} {k : Nat} (hp : 2 ≤ p) (hk : k < p) : Per p fun i => sm (p - 1) fun j => s j * rt p (i + j) k :=
  Per.lin (a := s) (f := fun j i => rt p (i + j) k) fun j _ => per_rt1 hp hk
theorem mulR_assoc {p : Nat} {r s t : Nat → Int} {k : Nat} (hp : 2 ≤ p) (hk : k < p) : mulR p (mulR p r s) t k = mulR p r (mulR p s t) k := by
  have e1 : mulR p (mulR p r s) t k = sm (p - 1) fun i => sm (p - 1) fun j => sm (p - 1) fun l => r i * s j * t l * rt p (i + j + l) k := by
    rw [mulR_E, E_mul hp (per_sum hp hk)]
    refine sm_congr fun i _ => sm_congr fun j _ => ?_
    rw [← sm_mul]
    refine sm_congr fun l _ => ?_
    rw [← Int.mul_assoc]
  have e2 : mulR p r (mulR p s t) k = sm (p - 1) fun i => sm (p - 1) fun j => sm (p - 1) fun l => r i * s j * t l * rt p (i + j + l) k := by
    have : mulR p r (mulR p s t) k = sm (p - 1) fun i => r i * E p (mulR p s t) fun j => rt p (j + i) k := by
      refine sm_congr fun i _ => ?_
      unfold E
      rw [← sm_mul]
      refine sm_congr fun j _ => ?_
      rw [Nat.add_comm i j, Int.mul_assoc]
    rw [this]
    refine sm_congr fun i _ => ?_
    rw [E_mul hp (per_rt1 hp hk), ← sm_mul]
    refine sm_congr fun j _ => ?_
    rw [← sm_mul]
    refine sm_congr fun l _ => ?_
    rw [show j + l + i = i + j + l by omega]
    grind
  rw [e1, e2]
theorem mulR_one {p : Nat} {s : Nat → Int} {k : Nat} (hp : 2 ≤ p) (hk : k < p - 1) : mulR p (one p) s k = s k := by
  rw [mulR_E]
  unfold one
  rw [E_rt hp (per_sum hp (by omega)) 0]
  rw [← sm_one (g := s) hk]
  refine sm_congr fun j hj => ?_
  unfold rt ind
  rw [Nat.zero_add, Nat.mod_eq_of_lt (by omega : j < p), if_neg (by omega : ¬ j = p - 1)]
  by_cases e : j = k
  · rw [if_pos e, if_pos e]
    omega
  · rw [if_neg e, if_neg e]
    omega
theorem movR_mul {p b : Nat} {r s : Nat → Int} {k : Nat} (hp : 2 ≤ p) (hb : Inv p b) (hk : k < p) : movR p (mulR p r s) b k = mulR p (movR p r b) (movR p s b) k := by
  have e1 : movR p (mulR p r s) b k = sm (p - 1) fun i => sm (p - 1) fun j => r i * s j * rt p ((i + j) * b) k := by
    have := E_mul (r := r) (s := s) hp (per_rt (c := 0) hp hb hk)
    simp only [Nat.add_zero] at this
    exact this
  have e2 : mulR p (movR p r b) (movR p s b) k = sm (p - 1) fun i => sm (p - 1) fun j => r i * s j * rt p (i * b + j * b) k := by
    rw [mulR_E, E_mov hp (per_sum hp hk)]
    refine sm_congr fun i _ => ?_
    have := E_mov (r := s) (b := b) hp (per_rt1 (c := i * b) hp hk)
    rw [← sm_congr (f := fun j => movR p s b j * rt p (j + i * b) k) (fun j _ => by rw [Nat.add_comm])]
    rw [show (sm (p - 1) fun j => movR p s b j * rt p (j + i * b) k) = E p (movR p s b) (fun j => rt p (j + i * b) k) from rfl, this, ← sm_mul]
    refine sm_congr fun j _ => ?_
    rw [Nat.add_comm (i * b)]
    exact (Int.mul_assoc _ _ _).symm
  rw [e1, e2]
  refine sm_congr fun i _ => sm_congr fun j _ => ?_
  rw [Nat.add_mul]
end K19
namespace K19
open PySem
open PySem.Spec
open PyProof.Rows
open L2
open DL
def wid (p : Nat) (W : Nat → Int) : List D := (List.range p).map fun k => PyData.int (W k)
abbrev rowD (p : Nat) (f : Nat → Int) : D := .tuple (wid (p - 1) f)
theorem wid_len {p : Nat} {W : Nat → Int} : (wid p W).length = p := by
  unfold wid
  rw [List.length_map, List.length_range]
theorem wid_get {p i : Nat} {W : Nat → Int} (h : i < p) : (wid p W)[i]? = some (.int (W i)) := by
  unfold wid
  rw [List.getElem?_map, List.getElem?_range h]
  rfl
theorem wid_congr {p : Nat} {W W' : Nat → Int} (h : ∀ k, k < p → W k = W' k) : wid p W = wid p W' := by
  unfold wid
  refine List.map_congr_left fun k hk => ?_
  rw [h k (List.mem_range.mp hk)]
theorem wid_ext {p : Nat} {W : Nat → Int} {l : List D} (hl : l.length = p) (h : ∀ i, i < p → l[i]? = some (.int (W i))) : l = wid p W := by
  refine List.ext_getElem? fun i => ?_
  by_cases hi : i < p
  · rw [h i hi, wid_get hi]
  · rw [List.getElem?_eq_none (by omega), List.getElem?_eq_none (by rw [wid_len]; omega)]
theorem wid_inj {p : Nat} {W W' : Nat → Int} (h : wid p W = wid p W') : ∀ k, k < p → W k = W' k := fun k hk => by
  have e1 := wid_get (W := W) hk
  rw [h, wid_get hk] at e1
  injection e1 with e1
  injection e1 with e1
  exact e1.symm
theorem wid_set {p m : Nat} {W : Nat → Int} {x : Int} : (wid p W).set m (.int x) = wid p fun k => if k = m then x else W k := by
  refine wid_ext (by rw [List.length_set, wid_len]) fun i hi => ?_
  by_cases e : i = m
  · subst e
    rw [List.getElem?_set_self (by rw [wid_len]; exact hi), if_pos rfl]
  · rw [List.getElem?_set_ne (fun h => e h.symm), wid_get hi, if_neg e]
theorem wid_zero {p : Nat} : (List.replicate p [PyData.int 0]).flatten = wid p fun _ => 0 := by
  refine wid_ext ?_ fun i hi => ?_
  · rw [List.length_flatten, List.map_replicate, List.sum_replicate_nat]
    show p * 1 = p
    omega
  · have : ∀ n : Nat, i < n → (List.replicate n [PyData.int 0]).flatten[i]? = some (.int 0) := by
      intro n
      induction n generalizing i with
      | zero => intro h; omega
      | succ n ih =>
        intro h
        rw [List.replicate_succ, List.flatten_cons]
        cases i with
        | zero => rfl
        | succ i => exact ih (i := i) (hi := by omega) (by omega)
    exact this p hi
theorem wid_succ {p : Nat} {W : Nat → Int} : wid (p + 1) W = wid p W ++ [.int (W p)] := by
  unfold wid
  rw [List.range_succ, List.map_append]
  rfl
theorem wid_ints {p : Nat} {W : Nat → Int} : wid p W = ((List.range p).map W).map PyData.int := by
  unfold wid
  rw [List.map_map]
  rfl
theorem wid_tok {p : Nat} {W : Nat → Int} : ∀ n, noTok (wid n W) = true
  | 0 => rfl
  | n + 1 => by
    rw [wid_succ]
    have : ∀ l : List D, noTok l = true → ∀ x : Int, noTok (l ++ [.int x]) = true := by
      intro l
      induction l with
      | nil => intro _ x; rfl
      | cons y r ih =>
        intro h x
        cases y <;> first | exact ih h x | (cases h)
    exact this _ (wid_tok (p := p) n) _
theorem upTo_get {lo : Int} {n i : Nat} (hi : i < (upTo lo n).length) : (upTo lo n)[i] = .int (lo + (i : Int)) := by
  have hn : i < n := by rw [upTo_len] at hi; exact hi
  have h1 : (upTo lo n)[i]? = some (.int (lo + (i : Int))) := by rw [upTo_irg, List.getElem?_map, irg_get hn]; rfl
  exact Option.some.inj ((List.getElem?_eq_getElem hi).symm.trans h1)
section
variable {g : G}
theorem frz_d {i : Nat} {k : SF} {ρ : RS} {x : D} {o : SO} (h : ρ[i]? = some (.d x)) (h2 : k ρ g = o) : sFrz i k ρ g = o := by
  rw [sFrz_ap, h]
  exact h2
theorem frz_own {i : Nat} {k : SF} {ρ : RS} {xs : List D} {o : SO} (h : ρ[i]? = some (.own xs)) (h2 : k (ρ.set i (.d (.list xs))) g = o) : sFrz i k ρ g = o := by
  rw [sFrz_ap, h]
  exact h2
theorem atI_wid {p m : Nat} {W : Nat → Int} {i : Int} (hi : i = (m : Int)) (hm : m < p) : atI (wid p W) i = some (.int (W m)) := by
  subst hi
  rw [atI_n (by omega), Int.toNat_natCast, wid_get hm]
theorem aug_row {i p m : Nat} {φ : Int → Int → Int} {fj fe : EF} {ρ : RS} {W : Nat → Int} {v z : Int} (h : ρ[i]? = some (.own (wid p W))) (hj : fj ρ g = .ok (.int z) g) (hz : z = (m : Int)) (hm : m < p) (he : fe ρ g = .ok (.int v) g) :
    sAugIx i φ fj fe ρ g = .nx (ρ.set i (.own (wid p fun k => if k = m then φ (W m) v else W k))) g := by
  unfold sAugIx
  rw [h]
  show (fj ρ g).go ρ _ = _
  rw [hj, go_ok]
  show (match ixN (wid p W).length z with | some m => _ | none => _) = _
  rw [ixN0 hz (by rw [wid_len]; exact hm)]
  show (match (wid p W)[m]? with | some (.int a) => _ | _ => _) = _
  rw [wid_get hm]
  show (fe ρ g).go ρ _ = _
  rw [he, go_ok]
  show SO.nx (ρ.set i (.own ((wid p W).set m (.int (φ (W m) v))))) g = _
  rw [wid_set]
theorem set_row {i p m : Nat} {fj fe : EF} {ρ : RS} {W : Nat → Int} {v z : Int} (h : ρ[i]? = some (.own (wid p W))) (he : fe ρ g = .ok (.int v) g) (hj : fj ρ g = .ok (.int z) g) (hz : z = (m : Int)) (hm : m < p) :
    sSetIx i fe fj ρ g = .nx (ρ.set i (.own (wid p fun k => if k = m then v else W k))) g := by
  rw [sSetIx_ap, h]
  show (fe ρ g).go ρ _ = _
  rw [he, go_ok]
  show (fj ρ g).go ρ _ = _
  rw [hj, go_ok]
  show (match ixN (wid p W).length z with | some m => _ | none => _) = _
  rw [ixN0 hz (by rw [wid_len]; exact hm)]
  show (if noTok [PyData.int v] = true then SO.nx (ρ.set i (.own ((wid p W).set m (.int v)))) g else .bad) = _
  rw [if_pos (show noTok [PyData.int v] = true from rfl), wid_set]
theorem ixa_row {i p m : Nat} {fj : EF} {ρ : RS} {W : Nat → Int} {z : Int} (h : ρ[i]? = some (.own (wid p W))) (hj : fj ρ g = .ok (.int z) g) (hz : z = (m : Int)) (hm : m < p) : eIxA i fj ρ g = .ok (.int (W m)) g := by
  rw [eIxA_ap, h]
  show eIxO i fj ρ g = _
  rw [eIxO_ap, h]
  show (fj ρ g).bind _ = _
  rw [hj, bind_ok]
  show (match atI (wid p W) z with | some d => Out.ok d g | none => .bad) = _
  rw [atI_wid hz hm]
theorem mod_nat {a p : Nat} : ((a : Nat) : Int) % (p : Int) = ((a % p : Nat) : Int) := (Int.natCast_emod a p).symm
theorem m_settled_eq {p : Nat} {W : Nat → Int} (hp : 1 ≤ p) (hp2 : p ≤ 1000) : m_settled [.list (wid p W)] g = .ok (rowD p fun k => W k - W (p - 1)) g := by
  have hlast : atI (wid p W) (-1) = some (.int (W (p - 1))) := by
    rw [atI_neg (by omega) (by rw [wid_len]; omega), wid_len, show (-1 + (p : Int)).toNat = p - 1 by omega, wid_get (by omega)]
  have hcut : cutD (wid p W) none (some (-1)) = ((List.range (p - 1)).map W).map PyData.int := by
    rw [cutD_neg (by omega), wid_len, show (-1 + (p : Int)).toNat = p - 1 by omega, ← wid_ints]
    refine wid_ext (by rw [List.length_take, wid_len]; omega) fun i hi => ?_
    rw [List.getElem?_take_of_lt hi, wid_get (by omega)]
  have hC : eOf C_settled_1 [.d (.list (wid p W)), .un] g = .ok (.list (wid (p - 1) fun k => W k - W (p - 1))) g := by
    have := comp_mapA PyData.int (vs := [1]) (fi := iSeq (eSl (eV 0) oNone (oSome (eNeg (eC (.int 1)))))) (b := bName 1) (fe := eBin opSub (eV 1) (eBin opIx (eV 0) (eNeg (eC (.int 1))))) (ρ := [.d (.list (wid p W)), .un]) (g := g) (xs := (List.range (p - 1)).map W) (fun x => .int (x - W (p - 1))) (by
      rw [← hcut]
      generalize wid p W = L at *
      rfl) (by rw [List.length_map, List.length_range]; omega) (fun x hx => by
      refine ⟨[.d (.list (wid p W)), .d (.int x)], rfl, ?_, rfl⟩
      generalize wid p W = L at *
      show ((eV 1 [.d (.list L), .d (.int x)] g).bind _) = _
      rw [show eV 1 [.d (.list L), .d (.int x)] g = .ok (.int x) g from rfl, bind_ok]
      show ((opIx (.list L) (.int (-1)) g).bind _) = _
      rw [opIx_list, hlast]
      rfl)
    show (C_settled_1 _ g).bind _ = _
    rw [show C_settled_1 = oComp [1] (iSeq (eSl (eV 0) oNone (oSome (eNeg (eC (.int 1)))))) (bName 1) tYesF (eBin opSub (eV 1) (eBin opIx (eV 0) (eNeg (eC (.int 1))))) from rfl, this, bind_ok, List.map_map]
    rfl
  refine m_rt (np := 1) rfl ?_
  refine Eq.trans (b := sem_settled [.d (.list (wid p W)), .un] g) rfl ?_
  have hbt : bTuple [.list (wid (p - 1) fun k => W k - W (p - 1))] g = .ok (rowD p fun k => W k - W (p - 1)) g := rfl
  generalize rowD p (fun k => W k - W (p - 1)) = R at *
  generalize (wid (p - 1) fun k => W k - W (p - 1)) = L2 at *
  generalize wid p W = L at *
  simp (disch := omega) only [sem_settled, S_settled_1, hC, hbt, eV_ap, eC_ap, eBin_ap, eNeg_ap, tVal_ap, eIsN_ap, eNotN_ap, eChain_ap, tAndF_ap, tOrF_ap, tNotF_ap, tTru_ap, eAnd_ap, eOr_ap, eNot_ap, eIf_ap, aNil_ap, aCons_ap, eTup_ap, eLst_ap, oNone_ap, oSome_ap, eSl_ap, eCall_ap, iLst_ap, iTpl_ap, iRan2_apN, oLst_ap, oCat_ap, oRep_ap, oSl_ap, oList_ap, oComp_ap, tYesF_ap, sNil_ap, sSeq_th, sBrk_ap, sCnt_ap, sExpr_ap, sRet_ap, sRetN_ap, sIf_ap, sSet_ap, sSetO_ap, sAsg_ap, sPar_ap, sPar3_ap, sAug_ap, sApp_ap, sExt_ap, sSetIx_ap, sFrz_ap, eIxO_ap, eLenO_ap, eIxA_ap, eLenA_ap, vOf_ap, vCons_ap, vOwn_ap, vOwn2_ap, sTup_ap, iSeq_ap, sRaise_ap, sTry_ap, eExF_ap, tIfF_ap, eRev_ap, eRevA_ap, eRevF_ap, th_nx, th_rt, th_bk, th_ct, th_exc, bind_ok, bind_exc, go_ok, go_exc, opAdd_int, opSub_int, opMul_a, opMul_b, opDiv_pos, opDiv_wide, opMod_pos, opI_int, opEq_int, opNe_int, opEq_bool, opNe_bool, atI_0, atI_1, atI_2, atI_3, opIx_list, opIx_tuple, iRan1_ap, bLen_list, bLen_tuple, bInt_int, bAbs_int, bName, bNil, bCons, bTup, List.getElem?_cons_zero, List.getElem?_cons_succ, List.set_cons_zero, List.set_cons_succ, List.length_cons, List.length_nil, noTok, if_true, if_false, decide_true, decide_false, Bool.not_true, Bool.not_false, setAll, List.map_cons, List.map_nil, truD, Bool.true_eq_false, Bool.false_eq_true, Option.bind_some, true_and, and_true, List.replicate, startR, List.cons_append, List.nil_append, Nat.sub_self, reduceIte, ↓reduceIte, isNon, LIM_eq, and_self, List.map_append, List.length_map, Int.toNat_natCast, Nat.zero_le, Nat.reduceLeDiff, Int.reduceNeg, Int.reduceLE, Int.reduceLT, Int.zero_add, ran1_int, ran2_int, noEx, eq_self, dI, dP, dPs]
theorem m__law_settled_eq {p : Nat} {W : Nat → Int} (hp : 1 ≤ p) (hp2 : p ≤ 1000) : m__law_settled [.list (wid p W)] g = .ok (rowD p fun k => W k - W (p - 1)) g := by
  have hlast : atI (wid p W) (-1) = some (.int (W (p - 1))) := by
    rw [atI_neg (by omega) (by rw [wid_len]; omega), wid_len, show (-1 + (p : Int)).toNat = p - 1 by omega, wid_get (by omega)]
  have hcut : cutD (wid p W) none (some (-1)) = ((List.range (p - 1)).map W).map PyData.int := by
    rw [cutD_neg (by omega), wid_len, show (-1 + (p : Int)).toNat = p - 1 by omega, ← wid_ints]
    refine wid_ext (by rw [List.length_take, wid_len]; omega) fun i hi => ?_
    rw [List.getElem?_take_of_lt hi, wid_get (by omega)]
  have hC : eOf C__law_settled_1 [.d (.list (wid p W)), .un] g = .ok (.list (wid (p - 1) fun k => W k - W (p - 1))) g := by
    have := comp_mapA PyData.int (vs := [1]) (fi := iSeq (eSl (eV 0) oNone (oSome (eNeg (eC (.int 1)))))) (b := bName 1) (fe := eBin opSub (eV 1) (eBin opIx (eV 0) (eNeg (eC (.int 1))))) (ρ := [.d (.list (wid p W)), .un]) (g := g) (xs := (List.range (p - 1)).map W) (fun x => .int (x - W (p - 1))) (by
      rw [← hcut]
      generalize wid p W = L at *
      rfl) (by rw [List.length_map, List.length_range]; omega) (fun x hx => by
      refine ⟨[.d (.list (wid p W)), .d (.int x)], rfl, ?_, rfl⟩
      generalize wid p W = L at *
      show ((eV 1 [.d (.list L), .d (.int x)] g).bind _) = _
      rw [show eV 1 [.d (.list L), .d (.int x)] g = .ok (.int x) g from rfl, bind_ok]
      show ((opIx (.list L) (.int (-1)) g).bind _) = _
      rw [opIx_list, hlast]
      rfl)
    show (C__law_settled_1 _ g).bind _ = _
    rw [show C__law_settled_1 = oComp [1] (iSeq (eSl (eV 0) oNone (oSome (eNeg (eC (.int 1)))))) (bName 1) tYesF (eBin opSub (eV 1) (eBin opIx (eV 0) (eNeg (eC (.int 1))))) from rfl, this, bind_ok, List.map_map]
    rfl
  refine m_rt (np := 1) rfl ?_
  refine Eq.trans (b := sem__law_settled [.d (.list (wid p W)), .un] g) rfl ?_
  have hbt : bTuple [.list (wid (p - 1) fun k => W k - W (p - 1))] g = .ok (rowD p fun k => W k - W (p - 1)) g := rfl
  generalize rowD p (fun k => W k - W (p - 1)) = R at *
  generalize (wid (p - 1) fun k => W k - W (p - 1)) = L2 at *
  generalize wid p W = L at *
  simp (disch := omega) only [sem__law_settled, S__law_settled_1, hC, hbt, eV_ap, eC_ap, eBin_ap, eNeg_ap, tVal_ap, eIsN_ap, eNotN_ap, eChain_ap, tAndF_ap, tOrF_ap, tNotF_ap, tTru_ap, eAnd_ap, eOr_ap, eNot_ap, eIf_ap, aNil_ap, aCons_ap, eTup_ap, eLst_ap, oNone_ap, oSome_ap, eSl_ap, eCall_ap, iLst_ap, iTpl_ap, iRan2_apN, oLst_ap, oCat_ap, oRep_ap, oSl_ap, oList_ap, oComp_ap, tYesF_ap, sNil_ap, sSeq_th, sBrk_ap, sCnt_ap, sExpr_ap, sRet_ap, sRetN_ap, sIf_ap, sSet_ap, sSetO_ap, sAsg_ap, sPar_ap, sPar3_ap, sAug_ap, sApp_ap, sExt_ap, sSetIx_ap, sFrz_ap, eIxO_ap, eLenO_ap, eIxA_ap, eLenA_ap, vOf_ap, vCons_ap, vOwn_ap, vOwn2_ap, sTup_ap, iSeq_ap, sRaise_ap, sTry_ap, eExF_ap, tIfF_ap, eRev_ap, eRevA_ap, eRevF_ap, th_nx, th_rt, th_bk, th_ct, th_exc, bind_ok, bind_exc, go_ok, go_exc, opAdd_int, opSub_int, opMul_a, opMul_b, opDiv_pos, opDiv_wide, opMod_pos, opI_int, opEq_int, opNe_int, opEq_bool, opNe_bool, atI_0, atI_1, atI_2, atI_3, opIx_list, opIx_tuple, iRan1_ap, bLen_list, bLen_tuple, bInt_int, bAbs_int, bName, bNil, bCons, bTup, List.getElem?_cons_zero, List.getElem?_cons_succ, List.set_cons_zero, List.set_cons_succ, List.length_cons, List.length_nil, noTok, if_true, if_false, decide_true, decide_false, Bool.not_true, Bool.not_false, setAll, List.map_cons, List.map_nil, truD, Bool.true_eq_false, Bool.false_eq_true, Option.bind_some, true_and, and_true, List.replicate, startR, List.cons_append, List.nil_append, Nat.sub_self, reduceIte, ↓reduceIte, isNon, LIM_eq, and_self, List.map_append, List.length_map, Int.toNat_natCast, Nat.zero_le, Nat.reduceLeDiff, Int.reduceNeg, Int.reduceLE, Int.reduceLT, Int.zero_add, ran1_int, ran2_int, noEx, eq_self, dI, dP, dPs]
def accT (p : Nat) (r s : Nat → Int) (i : Nat) : Nat → Int := fun k => sm i fun a => sm (p - 1) fun b => r a * s b * ind ((a + b) % p = k)
def accU (p : Nat) (r s : Nat → Int) (i j : Nat) : Nat → Int := fun k => accT p r s i k + sm j fun b => r i * s b * ind ((i + b) % p = k)
theorem accT_succ {p : Nat} {r s : Nat → Int} {i : Nat} : accU p r s i (p - 1) = accT p r s (i + 1) := rfl
theorem accU_step {p : Nat} {r s : Nat → Int} {i j : Nat} : (fun k => if k = (i + j) % p then accU p r s i j ((i + j) % p) + r i * s j else accU p r s i j k) = accU p r s i (j + 1) := by
  funext k
  show _ = accT p r s i k + (sm j (fun b => r i * s b * ind ((i + b) % p = k)) + r i * s j * ind ((i + j) % p = k))
  by_cases e : k = (i + j) % p
  · rw [if_pos e, ← e]
    unfold accU ind
    rw [if_pos (rfl : k = k)]
    omega
  · rw [if_neg e]
    unfold accU
    rw [show ind ((i + j) % p = k) = 0 from if_neg fun h => e h.symm]
    omega
theorem accT_mul {p : Nat} {r s : Nat → Int} {k : Nat} : accT p r s (p - 1) k - accT p r s (p - 1) (p - 1) = mulR p r s k := by
  unfold accT mulR
  rw [← sm_sub]
  refine sm_congr fun a _ => ?_
  rw [← sm_sub]
  refine sm_congr fun b _ => ?_
  unfold rt
  rw [Int.mul_sub]
def bR (n p : Nat) (f : Nat → Int) : Prop := ∀ k, k < p - 1 → bd n (f k)
theorem m_times_eq {p n m : Nat} {r s : Nat → Int} (hp : 2 ≤ p) (hp2 : p ≤ 1000) (hr : bR n p r) (hs : bR m p s) (hn : n + m ≤ 50000) : m_times [rowD p r, rowD p s] g = .ok (rowD p (mulR p r s)) g := by
  have lr : bLen [rowD p r] g = .ok (.int ((p - 1 : Nat) : Int)) g := by
    show Out.ok (PyData.int ((wid (p - 1) r).length : Int)) g = _
    rw [wid_len]
  obtain ⟨P, hP⟩ : ∃ P : Int, P = (p : Int) := ⟨_, rfl⟩
  obtain ⟨ρ1, g1, ⟨rfl, y4, y5, rfl⟩, hw⟩ := sFor_run (fi := iRan1 (aCons (eCall bLen (aCons (eV 0) aNil)) aNil)) (b := bName 4) (f := B_times_3) (items := upTo 0 (p - 1)) (ρ := [.d (rowD p r), .d (rowD p s), .d (.int P), .own (wid p (accT p r s 0)), .un, .un]) (g := g) (g1 := g)
    (fun i ρ g' => g' = g ∧ ∃ y4 y5 : SV, ρ = [.d (rowD p r), .d (rowD p s), .d (.int P), .own (wid p (accT p r s i)), y4, y5]) (by
      have e := ran1_int (j := ((p - 1 : Nat) : Int)) (g := g) (by omega) (by omega)
      rw [Int.toNat_natCast] at e
      generalize rowD p r = R1 at *
      generalize rowD p s = R2 at *
      generalize wid p (accT p r s 0) = L at *
      simp (disch := omega) only [lr, e, eV_ap, eC_ap, eBin_ap, eNeg_ap, tVal_ap, eIsN_ap, eNotN_ap, eChain_ap, tAndF_ap, tOrF_ap, tNotF_ap, tTru_ap, eAnd_ap, eOr_ap, eNot_ap, eIf_ap, aNil_ap, aCons_ap, eTup_ap, eLst_ap, oNone_ap, oSome_ap, eSl_ap, eCall_ap, iLst_ap, iTpl_ap, iRan2_apN, eOf_ap, oLst_ap, oCat_ap, oRep_ap, oSl_ap, oList_ap, oComp_ap, tYesF_ap, sNil_ap, sSeq_th, sBrk_ap, sCnt_ap, sExpr_ap, sRet_ap, sRetN_ap, sIf_ap, sSet_ap, sSetO_ap, sAsg_ap, sPar_ap, sPar3_ap, sAug_ap, sApp_ap, sExt_ap, sSetIx_ap, sFrz_ap, eIxO_ap, eLenO_ap, eIxA_ap, eLenA_ap, vOf_ap, vCons_ap, vOwn_ap, vOwn2_ap, sTup_ap, iSeq_ap, sRaise_ap, sTry_ap, eExF_ap, tIfF_ap, eRev_ap, eRevA_ap, eRevF_ap, th_nx, th_rt, th_bk, th_ct, th_exc, bind_ok, bind_exc, go_ok, go_exc, opAdd_int, opSub_int, opMul_a, opMul_b, opDiv_pos, opDiv_wide, opMod_pos, opI_int, opEq_int, opNe_int, opEq_bool, opNe_bool, atI_0, atI_1, atI_2, atI_3, opIx_list, opIx_tuple, iRan1_ap, bLen_list, bLen_tuple, bInt_int, bAbs_int, bName, bNil, bCons, bTup, List.getElem?_cons_zero, List.getElem?_cons_succ, List.set_cons_zero, List.set_cons_succ, List.length_cons, List.length_nil, noTok, if_true, if_false, decide_true, decide_false, Bool.not_true, Bool.not_false, setAll, List.map_cons, List.map_nil, truD, Bool.true_eq_false, Bool.false_eq_true, Option.bind_some, true_and, and_true, List.replicate, startR, List.cons_append, List.nil_append, Nat.sub_self, reduceIte, ↓reduceIte, isNon, LIM_eq, and_self, List.map_append, List.length_map, Int.toNat_natCast, Nat.zero_le, Nat.reduceLeDiff, Int.reduceNeg, Int.reduceLE, Int.reduceLT, Int.zero_add, ran2_int, noEx, eq_self, dI, dP, dPs]) ⟨rfl, .un, .un, rfl⟩ (by
      rintro i hi ρ g' ⟨rfl, y4, y5, rfl⟩
      rw [upTo_len] at hi
      obtain ⟨I, hI⟩ : ∃ I : Int, I = (i : Int) := ⟨_, rfl⟩
      refine ⟨[.d (rowD p r), .d (rowD p s), .d (.int P), .own (wid p (accT p r s i)), .d (.int I), y5], ?_⟩
      have ls : bLen [rowD p s] g' = .ok (.int ((p - 1 : Nat) : Int)) g' := by
        show Out.ok (PyData.int ((wid (p - 1) s).length : Int)) g' = _
        rw [wid_len]
      obtain ⟨ρ2, g2, ⟨rfl, z5, rfl⟩, hw2⟩ := sFor_run (fi := iRan1 (aCons (eCall bLen (aCons (eV 1) aNil)) aNil)) (b := bName 5) (f := B_times_4) (items := upTo 0 (p - 1)) (ρ := [.d (rowD p r), .d (rowD p s), .d (.int P), .own (wid p (accU p r s i 0)), .d (.int I), y5]) (g := g') (g1 := g')
        (fun j ρ g2 => g2 = g' ∧ ∃ z5 : SV, ρ = [.d (rowD p r), .d (rowD p s), .d (.int P), .own (wid p (accU p r s i j)), .d (.int I), z5]) (by
          have e := ran1_int (j := ((p - 1 : Nat) : Int)) (g := g') (by omega) (by omega)
          rw [Int.toNat_natCast] at e
          generalize rowD p r = R1 at *
          generalize rowD p s = R2 at *
          generalize wid p (accU p r s i 0) = L at *
          simp (disch := omega) only [ls, e, eV_ap, eC_ap, eBin_ap, eNeg_ap, tVal_ap, eIsN_ap, eNotN_ap, eChain_ap, tAndF_ap, tOrF_ap, tNotF_ap, tTru_ap, eAnd_ap, eOr_ap, eNot_ap, eIf_ap, aNil_ap, aCons_ap, eTup_ap, eLst_ap, oNone_ap, oSome_ap, eSl_ap, eCall_ap, iLst_ap, iTpl_ap, iRan2_apN, eOf_ap, oLst_ap, oCat_ap, oRep_ap, oSl_ap, oList_ap, oComp_ap, tYesF_ap, sNil_ap, sSeq_th, sBrk_ap, sCnt_ap, sExpr_ap, sRet_ap, sRetN_ap, sIf_ap, sSet_ap, sSetO_ap, sAsg_ap, sPar_ap, sPar3_ap, sAug_ap, sApp_ap, sExt_ap, sSetIx_ap, sFrz_ap, eIxO_ap, eLenO_ap, eIxA_ap, eLenA_ap, vOf_ap, vCons_ap, vOwn_ap, vOwn2_ap, sTup_ap, iSeq_ap, sRaise_ap, sTry_ap, eExF_ap, tIfF_ap, eRev_ap, eRevA_ap, eRevF_ap, th_nx, th_rt, th_bk, th_ct, th_exc, bind_ok, bind_exc, go_ok, go_exc, opAdd_int, opSub_int, opMul_a, opMul_b, opDiv_pos, opDiv_wide, opMod_pos, opI_int, opEq_int, opNe_int, opEq_bool, opNe_bool, atI_0, atI_1, atI_2, atI_3, opIx_list, opIx_tuple, iRan1_ap, bLen_list, bLen_tuple, bInt_int, bAbs_int, bName, bNil, bCons, bTup, List.getElem?_cons_zero, List.getElem?_cons_succ, List.set_cons_zero, List.set_cons_succ, List.length_cons, List.length_nil, noTok, if_true, if_false, decide_true, decide_false, Bool.not_true, Bool.not_false, setAll, List.map_cons, List.map_nil, truD, Bool.true_eq_false, Bool.false_eq_true, Option.bind_some, true_and, and_true, List.replicate, startR, List.cons_append, List.nil_append, Nat.sub_self, reduceIte, ↓reduceIte, isNon, LIM_eq, and_self, List.map_append, List.length_map, Int.toNat_natCast, Nat.zero_le, Nat.reduceLeDiff, Int.reduceNeg, Int.reduceLE, Int.reduceLT, Int.zero_add, ran2_int, noEx, eq_self, dI, dP, dPs]) ⟨rfl, y5, rfl⟩ (by
          rintro j hj ρ g2 ⟨rfl, z5, rfl⟩
          rw [upTo_len] at hj
          obtain ⟨J, hJ⟩ : ∃ J : Int, J = (j : Int) := ⟨_, rfl⟩
          refine ⟨[.d (rowD p r), .d (rowD p s), .d (.int P), .own (wid p (accU p r s i j)), .d (.int I), .d (.int J)], [.d (rowD p r), .d (rowD p s), .d (.int P), .own (wid p (accU p r s i (j + 1))), .d (.int I), .d (.int J)], g2, by
            rw [upTo_get (by rw [upTo_len]; exact hj), Int.zero_add, ← hJ]
            rfl, .inl ?_, rfl, _, rfl⟩
          generalize g2 = g' at *
          have hz : (I + J) % P = (((i + j) % p : Nat) : Int) := by
            rw [hI, hJ, hP, ← mod_nat]
            rfl
          have hml : (i + j) % p < p := Nat.mod_lt _ (by omega)
          have hP0 : 0 < P := by omega
          have hmod : opMod (.int (I + J)) (.int P) g' = .ok (.int ((I + J) % P)) g' := opMod_pos hP0
          have i1 : atI (wid (p - 1) r) I = some (.int (r i)) := atI_wid hI hi
          have i2 : atI (wid (p - 1) s) J = some (.int (s j)) := atI_wid hJ hj
          have m1 : opMul (.int (r i)) (.int (s j)) g' = .ok (.int (r i * s j)) g' := opMul_bd (hr i hi) (hs j hj) (by omega)
          have hv : (eBin opMul (eBin opIx (eV 0) (eV 4)) (eBin opIx (eV 1) (eV 5))) [.d (rowD p r), .d (rowD p s), .d (.int P), .own (wid p (accU p r s i j)), .d (.int I), .d (.int J)] g' = .ok (.int (r i * s j)) g' := by
            change (eBin opMul (eBin opIx (eV 0) (eV 4)) (eBin opIx (eV 1) (eV 5))) [.d (.tuple (wid (p - 1) r)), .d (.tuple (wid (p - 1) s)), .d (.int P), .own (wid p (accU p r s i j)), .d (.int I), .d (.int J)] g' = _
            generalize wid (p - 1) r = R1 at *
            generalize wid (p - 1) s = R2 at *
            generalize wid p (accU p r s i j) = L at *
            simp (disch := omega) only [i1, i2, m1, eV_ap, eC_ap, eBin_ap, eNeg_ap, tVal_ap, eIsN_ap, eNotN_ap, eChain_ap, tAndF_ap, tOrF_ap, tNotF_ap, tTru_ap, eAnd_ap, eOr_ap, eNot_ap, eIf_ap, aNil_ap, aCons_ap, eTup_ap, eLst_ap, oNone_ap, oSome_ap, eSl_ap, eCall_ap, iLst_ap, iTpl_ap, iRan2_apN, eOf_ap, oLst_ap, oCat_ap, oRep_ap, oSl_ap, oList_ap, oComp_ap, tYesF_ap, sNil_ap, sSeq_th, sBrk_ap, sCnt_ap, sExpr_ap, sRet_ap, sRetN_ap, sIf_ap, sSet_ap, sSetO_ap, sAsg_ap, sPar_ap, sPar3_ap, sAug_ap, sApp_ap, sExt_ap, sSetIx_ap, sFrz_ap, eIxO_ap, eLenO_ap, eIxA_ap, eLenA_ap, vOf_ap, vCons_ap, vOwn_ap, vOwn2_ap, sTup_ap, iSeq_ap, sRaise_ap, sTry_ap, eExF_ap, tIfF_ap, eRev_ap, eRevA_ap, eRevF_ap, th_nx, th_rt, th_bk, th_ct, th_exc, bind_ok, bind_exc, go_ok, go_exc, opAdd_int, opSub_int, opDiv_pos, opDiv_wide, opMod_pos, opI_int, opEq_int, opNe_int, opEq_bool, opNe_bool, atI_0, atI_1, atI_2, atI_3, opIx_list, opIx_tuple, iRan1_ap, bLen_list, bLen_tuple, bInt_int, bAbs_int, bName, bNil, bCons, bTup, List.getElem?_cons_zero, List.getElem?_cons_succ, List.set_cons_zero, List.set_cons_succ, List.length_cons, List.length_nil, noTok, if_true, if_false, decide_true, decide_false, Bool.not_true, Bool.not_false, setAll, List.map_cons, List.map_nil, truD, Bool.true_eq_false, Bool.false_eq_true, Option.bind_some, true_and, and_true, List.replicate, startR, List.cons_append, List.nil_append, Nat.sub_self, reduceIte, ↓reduceIte, isNon, LIM_eq, and_self, List.map_append, List.length_map, Int.toNat_natCast, Nat.zero_le, Nat.reduceLeDiff, Int.reduceNeg, Int.reduceLE, Int.reduceLT, Int.zero_add, ran1_int, ran2_int, noEx, eq_self, dI, dP, dPs]
          show sAugIx 3 (fun i j => i + j) (eBin opMod (eBin opAdd (eV 4) (eV 5)) (eV 2)) (eBin opMul (eBin opIx (eV 0) (eV 4)) (eBin opIx (eV 1) (eV 5))) [.d (rowD p r), .d (rowD p s), .d (.int P), .own (wid p (accU p r s i j)), .d (.int I), .d (.int J)] g' = _
          refine Eq.trans (aug_row (p := p) (W := accU p r s i j) (m := (i + j) % p) (v := r i * s j) (z := (I + J) % P) rfl ?_ hz hml hv) ?_
          · generalize rowD p r = R1 at *
            generalize rowD p s = R2 at *
            generalize wid p (accU p r s i j) = L at *
            simp (disch := omega) only [hmod, eV_ap, eC_ap, eBin_ap, eNeg_ap, tVal_ap, eIsN_ap, eNotN_ap, eChain_ap, tAndF_ap, tOrF_ap, tNotF_ap, tTru_ap, eAnd_ap, eOr_ap, eNot_ap, eIf_ap, aNil_ap, aCons_ap, eTup_ap, eLst_ap, oNone_ap, oSome_ap, eSl_ap, eCall_ap, iLst_ap, iTpl_ap, iRan2_apN, eOf_ap, oLst_ap, oCat_ap, oRep_ap, oSl_ap, oList_ap, oComp_ap, tYesF_ap, sNil_ap, sSeq_th, sBrk_ap, sCnt_ap, sExpr_ap, sRet_ap, sRetN_ap, sIf_ap, sSet_ap, sSetO_ap, sAsg_ap, sPar_ap, sPar3_ap, sAug_ap, sApp_ap, sExt_ap, sSetIx_ap, sFrz_ap, eIxO_ap, eLenO_ap, eIxA_ap, eLenA_ap, vOf_ap, vCons_ap, vOwn_ap, vOwn2_ap, sTup_ap, iSeq_ap, sRaise_ap, sTry_ap, eExF_ap, tIfF_ap, eRev_ap, eRevA_ap, eRevF_ap, th_nx, th_rt, th_bk, th_ct, th_exc, bind_ok, bind_exc, go_ok, go_exc, opAdd_int, opSub_int, opMul_a, opMul_b, opDiv_pos, opDiv_wide, opI_int, opEq_int, opNe_int, opEq_bool, opNe_bool, atI_0, atI_1, atI_2, atI_3, opIx_list, opIx_tuple, iRan1_ap, bLen_list, bLen_tuple, bInt_int, bAbs_int, bName, bNil, bCons, bTup, List.getElem?_cons_zero, List.getElem?_cons_succ, List.set_cons_zero, List.set_cons_succ, List.length_cons, List.length_nil, noTok, if_true, if_false, decide_true, decide_false, Bool.not_true, Bool.not_false, setAll, List.map_cons, List.map_nil, truD, Bool.true_eq_false, Bool.false_eq_true, Option.bind_some, true_and, and_true, List.replicate, startR, List.cons_append, List.nil_append, Nat.sub_self, reduceIte, ↓reduceIte, isNon, LIM_eq, and_self, List.map_append, List.length_map, Int.toNat_natCast, Nat.zero_le, Nat.reduceLeDiff, Int.reduceNeg, Int.reduceLE, Int.reduceLT, Int.zero_add, ran1_int, ran2_int, noEx, eq_self, dI, dP, dPs]
          · show SO.nx [.d (rowD p r), .d (rowD p s), .d (.int P), .own (wid p fun k => if k = (i + j) % p then accU p r s i j ((i + j) % p) + r i * s j else accU p r s i j k), .d (.int I), .d (.int J)] g' = _
            rw [accU_step])
      rw [upTo_len] at hw2
      have e0 : accU p r s i 0 = accT p r s i := by
        funext k
        show accT p r s i k + 0 = _
        omega
      rw [e0, accT_succ] at hw2
      refine ⟨_, _, by
        rw [upTo_get (by rw [upTo_len]; exact hi), Int.zero_add, ← hI]
        rfl, .inl (show B_times_3 _ _ = _ from hw2), rfl, _, _, rfl⟩)
  rw [upTo_len] at hw
  refine m_rt (np := 2) rfl ?_
  refine Eq.trans (b := sem_times [.d (rowD p r), .d (rowD p s), .un, .un, .un, .un] g1) rfl ?_
  refine seq_nx (ρ1 := [.d (rowD p r), .d (rowD p s), .d (.int P), .un, .un, .un]) (g1 := g1) (by
    have hP2 : ((p - 1 : Nat) : Int) + 1 = P := by omega
    rw [← hP2]
    generalize rowD p r = R1 at *
    generalize rowD p s = R2 at *
    generalize ((p - 1 : Nat) : Int) = Q at *
    simp (disch := omega) only [S_times_1, lr, eV_ap, eC_ap, eBin_ap, eNeg_ap, tVal_ap, eIsN_ap, eNotN_ap, eChain_ap, tAndF_ap, tOrF_ap, tNotF_ap, tTru_ap, eAnd_ap, eOr_ap, eNot_ap, eIf_ap, aNil_ap, aCons_ap, eTup_ap, eLst_ap, oNone_ap, oSome_ap, eSl_ap, eCall_ap, iLst_ap, iTpl_ap, iRan2_apN, eOf_ap, oLst_ap, oCat_ap, oRep_ap, oSl_ap, oList_ap, oComp_ap, tYesF_ap, sNil_ap, sSeq_th, sBrk_ap, sCnt_ap, sExpr_ap, sRet_ap, sRetN_ap, sIf_ap, sSet_ap, sSetO_ap, sAsg_ap, sPar_ap, sPar3_ap, sAug_ap, sApp_ap, sExt_ap, sSetIx_ap, sFrz_ap, eIxO_ap, eLenO_ap, eIxA_ap, eLenA_ap, vOf_ap, vCons_ap, vOwn_ap, vOwn2_ap, sTup_ap, iSeq_ap, sRaise_ap, sTry_ap, eExF_ap, tIfF_ap, eRev_ap, eRevA_ap, eRevF_ap, th_nx, th_rt, th_bk, th_ct, th_exc, bind_ok, bind_exc, go_ok, go_exc, opAdd_int, opSub_int, opMul_a, opMul_b, opDiv_pos, opDiv_wide, opMod_pos, opI_int, opEq_int, opNe_int, opEq_bool, opNe_bool, atI_0, atI_1, atI_2, atI_3, opIx_list, opIx_tuple, iRan1_ap, bLen_list, bLen_tuple, bInt_int, bAbs_int, bName, bNil, bCons, bTup, List.getElem?_cons_zero, List.getElem?_cons_succ, List.set_cons_zero, List.set_cons_succ, List.length_cons, List.length_nil, noTok, if_true, if_false, decide_true, decide_false, Bool.not_true, Bool.not_false, setAll, List.map_cons, List.map_nil, truD, Bool.true_eq_false, Bool.false_eq_true, Option.bind_some, true_and, and_true, List.replicate, startR, List.cons_append, List.nil_append, Nat.sub_self, reduceIte, ↓reduceIte, isNon, LIM_eq, and_self, List.map_append, List.length_map, Int.toNat_natCast, Nat.zero_le, Nat.reduceLeDiff, Int.reduceNeg, Int.reduceLE, Int.reduceLT, Int.zero_add, ran1_int, ran2_int, noEx, eq_self, dI, dP, dPs]) ?_
  refine seq_nx (ρ1 := [.d (rowD p r), .d (rowD p s), .d (.int P), .own (wid p (accT p r s 0)), .un, .un]) (g1 := g1) (by
    have e0 : accT p r s 0 = fun _ => 0 := rfl
    have c1 : P ≤ (LIM : Int) ∧ -(2 ^ 62) ≤ P ∧ [PyData.int 0].length * P.toNat ≤ LIM := ⟨by rw [LIM_eq]; omega, by omega, by rw [LIM_eq]; show 1 * P.toNat ≤ _; omega⟩
    have hrep : (oRep (eLst (aCons (eC (.int 0)) aNil)) (eV 2)) [.d (rowD p r), .d (rowD p s), .d (.int P), .un, .un, .un] g1 = .ok (wid p (accT p r s 0)) g1 := by
      rw [e0, ← wid_zero]
      show (if P ≤ LIM ∧ -(2 ^ 62) ≤ P ∧ [PyData.int 0].length * P.toNat ≤ LIM then Out.ok (List.replicate P.toNat [PyData.int 0]).flatten g1 else .bad) = _
      rw [if_pos c1, show P.toNat = p by omega]
    generalize wid p (accT p r s 0) = L at *
    generalize rowD p r = R1 at *
    generalize rowD p s = R2 at *
    show ((oRep (eLst (aCons (eC (.int 0)) aNil)) (eV 2)) _ g1).go _ _ = _
    rw [hrep, go_ok]
    rfl) ?_
  refine seq_nx (show S_times_3 _ _ = _ from hw) ?_
  refine frz_own rfl ?_
  have hst := m_settled_eq (g := g1) (p := p) (W := accT p r s (p - 1)) (by omega) hp2
  have hco : rowD p (fun k => accT p r s (p - 1) k - accT p r s (p - 1) (p - 1)) = rowD p (mulR p r s) := by
    show PyData.tuple (wid (p - 1) _) = PyData.tuple (wid (p - 1) _)
    rw [wid_congr fun k _ => accT_mul]
  rw [hco] at hst
  change S_times_6 [.d (rowD p r), .d (rowD p s), .d (.int P), .d (.list (wid p (accT p r s (p - 1)))), y4, y5] g1 = _
  generalize wid p (accT p r s (p - 1)) = L at *
  generalize rowD p (mulR p r s) = R3 at *
  generalize rowD p r = R1 at *
  generalize rowD p s = R2 at *
  simp (disch := omega) only [S_times_6, hst, eV_ap, eC_ap, eBin_ap, eNeg_ap, tVal_ap, eIsN_ap, eNotN_ap, eChain_ap, tAndF_ap, tOrF_ap, tNotF_ap, tTru_ap, eAnd_ap, eOr_ap, eNot_ap, eIf_ap, aNil_ap, aCons_ap, eTup_ap, eLst_ap, oNone_ap, oSome_ap, eSl_ap, eCall_ap, iLst_ap, iTpl_ap, iRan2_apN, eOf_ap, oLst_ap, oCat_ap, oRep_ap, oSl_ap, oList_ap, oComp_ap, tYesF_ap, sNil_ap, sSeq_th, sBrk_ap, sCnt_ap, sExpr_ap, sRet_ap, sRetN_ap, sIf_ap, sSet_ap, sSetO_ap, sAsg_ap, sPar_ap, sPar3_ap, sAug_ap, sApp_ap, sExt_ap, sSetIx_ap, sFrz_ap, eIxO_ap, eLenO_ap, eIxA_ap, eLenA_ap, vOf_ap, vCons_ap, vOwn_ap, vOwn2_ap, sTup_ap, iSeq_ap, sRaise_ap, sTry_ap, eExF_ap, tIfF_ap, eRev_ap, eRevA_ap, eRevF_ap, th_nx, th_rt, th_bk, th_ct, th_exc, bind_ok, bind_exc, go_ok, go_exc, opAdd_int, opSub_int, opMul_a, opMul_b, opDiv_pos, opDiv_wide, opMod_pos, opI_int, opEq_int, opNe_int, opEq_bool, opNe_bool, atI_0, atI_1, atI_2, atI_3, opIx_list, opIx_tuple, iRan1_ap, bLen_list, bLen_tuple, bInt_int, bAbs_int, bName, bNil, bCons, bTup, List.getElem?_cons_zero, List.getElem?_cons_succ, List.set_cons_zero, List.set_cons_succ, List.length_cons, List.length_nil, noTok, if_true, if_false, decide_true, decide_false, Bool.not_true, Bool.not_false, setAll, List.map_cons, List.map_nil, truD, Bool.true_eq_false, Bool.false_eq_true, Option.bind_some, true_and, and_true, List.replicate, startR, List.cons_append, List.nil_append, Nat.sub_self, reduceIte, ↓reduceIte, isNon, LIM_eq, and_self, List.map_append, List.length_map, Int.toNat_natCast, Nat.zero_le, Nat.reduceLeDiff, Int.reduceNeg, Int.reduceLE, Int.reduceLT, Int.zero_add, ran1_int, ran2_int, noEx, eq_self, dI, dP, dPs]
theorem m__law_times_eq {p n m : Nat} {r s : Nat → Int} (hp : 2 ≤ p) (hp2 : p ≤ 1000) (hr : bR n p r) (hs : bR m p s) (hn : n + m ≤ 50000) : m__law_times [rowD p r, rowD p s] g = .ok (rowD p (mulR p r s)) g := by
  have lr : bLen [rowD p r] g = .ok (.int ((p - 1 : Nat) : Int)) g := by
    show Out.ok (PyData.int ((wid (p - 1) r).length : Int)) g = _
    rw [wid_len]
  obtain ⟨P, hP⟩ : ∃ P : Int, P = (p : Int) := ⟨_, rfl⟩
  obtain ⟨ρ1, g1, ⟨rfl, y4, y5, rfl⟩, hw⟩ := sFor_run (fi := iRan1 (aCons (eCall bLen (aCons (eV 0) aNil)) aNil)) (b := bName 4) (f := B__law_times_3) (items := upTo 0 (p - 1)) (ρ := [.d (rowD p r), .d (rowD p s), .d (.int P), .own (wid p (accT p r s 0)), .un, .un]) (g := g) (g1 := g)
    (fun i ρ g' => g' = g ∧ ∃ y4 y5 : SV, ρ = [.d (rowD p r), .d (rowD p s), .d (.int P), .own (wid p (accT p r s i)), y4, y5]) (by
      have e := ran1_int (j := ((p - 1 : Nat) : Int)) (g := g) (by omega) (by omega)
      rw [Int.toNat_natCast] at e
      generalize rowD p r = R1 at *
      generalize rowD p s = R2 at *
      generalize wid p (accT p r s 0) = L at *
      simp (disch := omega) only [lr, e, eV_ap, eC_ap, eBin_ap, eNeg_ap, tVal_ap, eIsN_ap, eNotN_ap, eChain_ap, tAndF_ap, tOrF_ap, tNotF_ap, tTru_ap, eAnd_ap, eOr_ap, eNot_ap, eIf_ap, aNil_ap, aCons_ap, eTup_ap, eLst_ap, oNone_ap, oSome_ap, eSl_ap, eCall_ap, iLst_ap, iTpl_ap, iRan2_apN, eOf_ap, oLst_ap, oCat_ap, oRep_ap, oSl_ap, oList_ap, oComp_ap, tYesF_ap, sNil_ap, sSeq_th, sBrk_ap, sCnt_ap, sExpr_ap, sRet_ap, sRetN_ap, sIf_ap, sSet_ap, sSetO_ap, sAsg_ap, sPar_ap, sPar3_ap, sAug_ap, sApp_ap, sExt_ap, sSetIx_ap, sFrz_ap, eIxO_ap, eLenO_ap, eIxA_ap, eLenA_ap, vOf_ap, vCons_ap, vOwn_ap, vOwn2_ap, sTup_ap, iSeq_ap, sRaise_ap, sTry_ap, eExF_ap, tIfF_ap, eRev_ap, eRevA_ap, eRevF_ap, th_nx, th_rt, th_bk, th_ct, th_exc, bind_ok, bind_exc, go_ok, go_exc, opAdd_int, opSub_int, opMul_a, opMul_b, opDiv_pos, opDiv_wide, opMod_pos, opI_int, opEq_int, opNe_int, opEq_bool, opNe_bool, atI_0, atI_1, atI_2, atI_3, opIx_list, opIx_tuple, iRan1_ap, bLen_list, bLen_tuple, bInt_int, bAbs_int, bName, bNil, bCons, bTup, List.getElem?_cons_zero, List.getElem?_cons_succ, List.set_cons_zero, List.set_cons_succ, List.length_cons, List.length_nil, noTok, if_true, if_false, decide_true, decide_false, Bool.not_true, Bool.not_false, setAll, List.map_cons, List.map_nil, truD, Bool.true_eq_false, Bool.false_eq_true, Option.bind_some, true_and, and_true, List.replicate, startR, List.cons_append, List.nil_append, Nat.sub_self, reduceIte, ↓reduceIte, isNon, LIM_eq, and_self, List.map_append, List.length_map, Int.toNat_natCast, Nat.zero_le, Nat.reduceLeDiff, Int.reduceNeg, Int.reduceLE, Int.reduceLT, Int.zero_add, ran2_int, noEx, eq_self, dI, dP, dPs]) ⟨rfl, .un, .un, rfl⟩ (by
      rintro i hi ρ g' ⟨rfl, y4, y5, rfl⟩
      rw [upTo_len] at hi
      obtain ⟨I, hI⟩ : ∃ I : Int, I = (i : Int) := ⟨_, rfl⟩
      refine ⟨[.d (rowD p r), .d (rowD p s), .d (.int P), .own (wid p (accT p r s i)), .d (.int I), y5], ?_⟩
      have ls : bLen [rowD p s] g' = .ok (.int ((p - 1 : Nat) : Int)) g' := by
        show Out.ok (PyData.int ((wid (p - 1) s).length : Int)) g' = _
        rw [wid_len]
      obtain ⟨ρ2, g2, ⟨rfl, z5, rfl⟩, hw2⟩ := sFor_run (fi := iRan1 (aCons (eCall bLen (aCons (eV 1) aNil)) aNil)) (b := bName 5) (f := B__law_times_4) (items := upTo 0 (p - 1)) (ρ := [.d (rowD p r), .d (rowD p s), .d (.int P), .own (wid p (accU p r s i 0)), .d (.int I), y5]) (g := g') (g1 := g')
        (fun j ρ g2 => g2 = g' ∧ ∃ z5 : SV, ρ = [.d (rowD p r), .d (rowD p s), .d (.int P), .own (wid p (accU p r s i j)), .d (.int I), z5]) (by
          have e := ran1_int (j := ((p - 1 : Nat) : Int)) (g := g') (by omega) (by omega)
          rw [Int.toNat_natCast] at e
          generalize rowD p r = R1 at *
          generalize rowD p s = R2 at *
          generalize wid p (accU p r s i 0) = L at *
          simp (disch := omega) only [ls, e, eV_ap, eC_ap, eBin_ap, eNeg_ap, tVal_ap, eIsN_ap, eNotN_ap, eChain_ap, tAndF_ap, tOrF_ap, tNotF_ap, tTru_ap, eAnd_ap, eOr_ap, eNot_ap, eIf_ap, aNil_ap, aCons_ap, eTup_ap, eLst_ap, oNone_ap, oSome_ap, eSl_ap, eCall_ap, iLst_ap, iTpl_ap, iRan2_apN, eOf_ap, oLst_ap, oCat_ap, oRep_ap, oSl_ap, oList_ap, oComp_ap, tYesF_ap, sNil_ap, sSeq_th, sBrk_ap, sCnt_ap, sExpr_ap, sRet_ap, sRetN_ap, sIf_ap, sSet_ap, sSetO_ap, sAsg_ap, sPar_ap, sPar3_ap, sAug_ap, sApp_ap, sExt_ap, sSetIx_ap, sFrz_ap, eIxO_ap, eLenO_ap, eIxA_ap, eLenA_ap, vOf_ap, vCons_ap, vOwn_ap, vOwn2_ap, sTup_ap, iSeq_ap, sRaise_ap, sTry_ap, eExF_ap, tIfF_ap, eRev_ap, eRevA_ap, eRevF_ap, th_nx, th_rt, th_bk, th_ct, th_exc, bind_ok, bind_exc, go_ok, go_exc, opAdd_int, opSub_int, opMul_a, opMul_b, opDiv_pos, opDiv_wide, opMod_pos, opI_int, opEq_int, opNe_int, opEq_bool, opNe_bool, atI_0, atI_1, atI_2, atI_3, opIx_list, opIx_tuple, iRan1_ap, bLen_list, bLen_tuple, bInt_int, bAbs_int, bName, bNil, bCons, bTup, List.getElem?_cons_zero, List.getElem?_cons_succ, List.set_cons_zero, List.set_cons_succ, List.length_cons, List.length_nil, noTok, if_true, if_false, decide_true, decide_false, Bool.not_true, Bool.not_false, setAll, List.map_cons, List.map_nil, truD, Bool.true_eq_false, Bool.false_eq_true, Option.bind_some, true_and, and_true, List.replicate, startR, List.cons_append, List.nil_append, Nat.sub_self, reduceIte, ↓reduceIte, isNon, LIM_eq, and_self, List.map_append, List.length_map, Int.toNat_natCast, Nat.zero_le, Nat.reduceLeDiff, Int.reduceNeg, Int.reduceLE, Int.reduceLT, Int.zero_add, ran2_int, noEx, eq_self, dI, dP, dPs]) ⟨rfl, y5, rfl⟩ (by
          rintro j hj ρ g2 ⟨rfl, z5, rfl⟩
          rw [upTo_len] at hj
          obtain ⟨J, hJ⟩ : ∃ J : Int, J = (j : Int) := ⟨_, rfl⟩
          refine ⟨[.d (rowD p r), .d (rowD p s), .d (.int P), .own (wid p (accU p r s i j)), .d (.int I), .d (.int J)], [.d (rowD p r), .d (rowD p s), .d (.int P), .own (wid p (accU p r s i (j + 1))), .d (.int I), .d (.int J)], g2, by
            rw [upTo_get (by rw [upTo_len]; exact hj), Int.zero_add, ← hJ]
            rfl, .inl ?_, rfl, _, rfl⟩
          generalize g2 = g' at *
          have hz : (I + J) % P = (((i + j) % p : Nat) : Int) := by
            rw [hI, hJ, hP, ← mod_nat]
            rfl
          have hml : (i + j) % p < p := Nat.mod_lt _ (by omega)
          have hP0 : 0 < P := by omega
          have hmod : opMod (.int (I + J)) (.int P) g' = .ok (.int ((I + J) % P)) g' := opMod_pos hP0
          have i1 : atI (wid (p - 1) r) I = some (.int (r i)) := atI_wid hI hi
          have i2 : atI (wid (p - 1) s) J = some (.int (s j)) := atI_wid hJ hj
          have m1 : opMul (.int (r i)) (.int (s j)) g' = .ok (.int (r i * s j)) g' := opMul_bd (hr i hi) (hs j hj) (by omega)
          have hv : (eBin opMul (eBin opIx (eV 0) (eV 4)) (eBin opIx (eV 1) (eV 5))) [.d (rowD p r), .d (rowD p s), .d (.int P), .own (wid p (accU p r s i j)), .d (.int I), .d (.int J)] g' = .ok (.int (r i * s j)) g' := by
            change (eBin opMul (eBin opIx (eV 0) (eV 4)) (eBin opIx (eV 1) (eV 5))) [.d (.tuple (wid (p - 1) r)), .d (.tuple (wid (p - 1) s)), .d (.int P), .own (wid p (accU p r s i j)), .d (.int I), .d (.int J)] g' = _
            generalize wid (p - 1) r = R1 at *
            generalize wid (p - 1) s = R2 at *
            generalize wid p (accU p r s i j) = L at *
            simp (disch := omega) only [i1, i2, m1, eV_ap, eC_ap, eBin_ap, eNeg_ap, tVal_ap, eIsN_ap, eNotN_ap, eChain_ap, tAndF_ap, tOrF_ap, tNotF_ap, tTru_ap, eAnd_ap, eOr_ap, eNot_ap, eIf_ap, aNil_ap, aCons_ap, eTup_ap, eLst_ap, oNone_ap, oSome_ap, eSl_ap, eCall_ap, iLst_ap, iTpl_ap, iRan2_apN, eOf_ap, oLst_ap, oCat_ap, oRep_ap, oSl_ap, oList_ap, oComp_ap, tYesF_ap, sNil_ap, sSeq_th, sBrk_ap, sCnt_ap, sExpr_ap, sRet_ap, sRetN_ap, sIf_ap, sSet_ap, sSetO_ap, sAsg_ap, sPar_ap, sPar3_ap, sAug_ap, sApp_ap, sExt_ap, sSetIx_ap, sFrz_ap, eIxO_ap, eLenO_ap, eIxA_ap, eLenA_ap, vOf_ap, vCons_ap, vOwn_ap, vOwn2_ap, sTup_ap, iSeq_ap, sRaise_ap, sTry_ap, eExF_ap, tIfF_ap, eRev_ap, eRevA_ap, eRevF_ap, th_nx, th_rt, th_bk, th_ct, th_exc, bind_ok, bind_exc, go_ok, go_exc, opAdd_int, opSub_int, opDiv_pos, opDiv_wide, opMod_pos, opI_int, opEq_int, opNe_int, opEq_bool, opNe_bool, atI_0, atI_1, atI_2, atI_3, opIx_list, opIx_tuple, iRan1_ap, bLen_list, bLen_tuple, bInt_int, bAbs_int, bName, bNil, bCons, bTup, List.getElem?_cons_zero, List.getElem?_cons_succ, List.set_cons_zero, List.set_cons_succ, List.length_cons, List.length_nil, noTok, if_true, if_false, decide_true, decide_false, Bool.not_true, Bool.not_false, setAll, List.map_cons, List.map_nil, truD, Bool.true_eq_false, Bool.false_eq_true, Option.bind_some, true_and, and_true, List.replicate, startR, List.cons_append, List.nil_append, Nat.sub_self, reduceIte, ↓reduceIte, isNon, LIM_eq, and_self, List.map_append, List.length_map, Int.toNat_natCast, Nat.zero_le, Nat.reduceLeDiff, Int.reduceNeg, Int.reduceLE, Int.reduceLT, Int.zero_add, ran1_int, ran2_int, noEx, eq_self, dI, dP, dPs]
          show sSetIx 3 (eBin opAdd (eIxA 3 (eBin opMod (eCall bInt (aCons (eBin opAdd (eV 4) (eV 5)) aNil)) (eV 2))) (eBin opMul (eBin opIx (eV 0) (eV 4)) (eBin opIx (eV 1) (eV 5)))) (eBin opMod (eCall bInt (aCons (eBin opAdd (eV 4) (eV 5)) aNil)) (eV 2)) [.d (rowD p r), .d (rowD p s), .d (.int P), .own (wid p (accU p r s i j)), .d (.int I), .d (.int J)] g' = _
          have hix : (eBin opMod (eCall bInt (aCons (eBin opAdd (eV 4) (eV 5)) aNil)) (eV 2)) [.d (rowD p r), .d (rowD p s), .d (.int P), .own (wid p (accU p r s i j)), .d (.int I), .d (.int J)] g' = .ok (.int ((I + J) % P)) g' := by
            generalize rowD p r = R1 at *
            generalize rowD p s = R2 at *
            generalize wid p (accU p r s i j) = L at *
            simp (disch := omega) only [hmod, eV_ap, eC_ap, eBin_ap, eNeg_ap, tVal_ap, eIsN_ap, eNotN_ap, eChain_ap, tAndF_ap, tOrF_ap, tNotF_ap, tTru_ap, eAnd_ap, eOr_ap, eNot_ap, eIf_ap, aNil_ap, aCons_ap, eTup_ap, eLst_ap, oNone_ap, oSome_ap, eSl_ap, eCall_ap, iLst_ap, iTpl_ap, iRan2_apN, eOf_ap, oLst_ap, oCat_ap, oRep_ap, oSl_ap, oList_ap, oComp_ap, tYesF_ap, sNil_ap, sSeq_th, sBrk_ap, sCnt_ap, sExpr_ap, sRet_ap, sRetN_ap, sIf_ap, sSet_ap, sSetO_ap, sAsg_ap, sPar_ap, sPar3_ap, sAug_ap, sApp_ap, sExt_ap, sSetIx_ap, sFrz_ap, eIxO_ap, eLenO_ap, eIxA_ap, eLenA_ap, vOf_ap, vCons_ap, vOwn_ap, vOwn2_ap, sTup_ap, iSeq_ap, sRaise_ap, sTry_ap, eExF_ap, tIfF_ap, eRev_ap, eRevA_ap, eRevF_ap, th_nx, th_rt, th_bk, th_ct, th_exc, bind_ok, bind_exc, go_ok, go_exc, opAdd_int, opSub_int, opMul_a, opMul_b, opDiv_pos, opDiv_wide, opI_int, opEq_int, opNe_int, opEq_bool, opNe_bool, atI_0, atI_1, atI_2, atI_3, opIx_list, opIx_tuple, iRan1_ap, bLen_list, bLen_tuple, bInt_int, bAbs_int, bName, bNil, bCons, bTup, List.getElem?_cons_zero, List.getElem?_cons_succ, List.set_cons_zero, List.set_cons_succ, List.length_cons, List.length_nil, noTok, if_true, if_false, decide_true, decide_false, Bool.not_true, Bool.not_false, setAll, List.map_cons, List.map_nil, truD, Bool.true_eq_false, Bool.false_eq_true, Option.bind_some, true_and, and_true, List.replicate, startR, List.cons_append, List.nil_append, Nat.sub_self, reduceIte, ↓reduceIte, isNon, LIM_eq, and_self, List.map_append, List.length_map, Int.toNat_natCast, Nat.zero_le, Nat.reduceLeDiff, Int.reduceNeg, Int.reduceLE, Int.reduceLT, Int.zero_add, ran1_int, ran2_int, noEx, eq_self, dI, dP, dPs]
          refine Eq.trans (set_row (p := p) (W := accU p r s i j) (m := (i + j) % p) (v := accU p r s i j ((i + j) % p) + r i * s j) (z := (I + J) % P) rfl ?_ hix hz hml) ?_
          · rw [eBin_ap, ixa_row rfl hix hz hml, bind_ok, hv, bind_ok, opAdd_int]
          · show SO.nx [.d (rowD p r), .d (rowD p s), .d (.int P), .own (wid p fun k => if k = (i + j) % p then accU p r s i j ((i + j) % p) + r i * s j else accU p r s i j k), .d (.int I), .d (.int J)] g' = _
            rw [accU_step])
      rw [upTo_len] at hw2
      have e0 : accU p r s i 0 = accT p r s i := by
        funext k
        show accT p r s i k + 0 = _
        omega
      rw [e0, accT_succ] at hw2
      refine ⟨_, _, by
        rw [upTo_get (by rw [upTo_len]; exact hi), Int.zero_add, ← hI]
        rfl, .inl (show B__law_times_3 _ _ = _ from hw2), rfl, _, _, rfl⟩)
  rw [upTo_len] at hw
  refine m_rt (np := 2) rfl ?_
  refine Eq.trans (b := sem__law_times [.d (rowD p r), .d (rowD p s), .un, .un, .un, .un] g1) rfl ?_
  refine seq_nx (ρ1 := [.d (rowD p r), .d (rowD p s), .d (.int P), .un, .un, .un]) (g1 := g1) (by
    have hP2 : ((p - 1 : Nat) : Int) + 1 = P := by omega
    rw [← hP2]
    generalize rowD p r = R1 at *
    generalize rowD p s = R2 at *
    generalize ((p - 1 : Nat) : Int) = Q at *
    simp (disch := omega) only [S__law_times_1, lr, eV_ap, eC_ap, eBin_ap, eNeg_ap, tVal_ap, eIsN_ap, eNotN_ap, eChain_ap, tAndF_ap, tOrF_ap, tNotF_ap, tTru_ap, eAnd_ap, eOr_ap, eNot_ap, eIf_ap, aNil_ap, aCons_ap, eTup_ap, eLst_ap, oNone_ap, oSome_ap, eSl_ap, eCall_ap, iLst_ap, iTpl_ap, iRan2_apN, eOf_ap, oLst_ap, oCat_ap, oRep_ap, oSl_ap, oList_ap, oComp_ap, tYesF_ap, sNil_ap, sSeq_th, sBrk_ap, sCnt_ap, sExpr_ap, sRet_ap, sRetN_ap, sIf_ap, sSet_ap, sSetO_ap, sAsg_ap, sPar_ap, sPar3_ap, sAug_ap, sApp_ap, sExt_ap, sSetIx_ap, sFrz_ap, eIxO_ap, eLenO_ap, eIxA_ap, eLenA_ap, vOf_ap, vCons_ap, vOwn_ap, vOwn2_ap, sTup_ap, iSeq_ap, sRaise_ap, sTry_ap, eExF_ap, tIfF_ap, eRev_ap, eRevA_ap, eRevF_ap, th_nx, th_rt, th_bk, th_ct, th_exc, bind_ok, bind_exc, go_ok, go_exc, opAdd_int, opSub_int, opMul_a, opMul_b, opDiv_pos, opDiv_wide, opMod_pos, opI_int, opEq_int, opNe_int, opEq_bool, opNe_bool, atI_0, atI_1, atI_2, atI_3, opIx_list, opIx_tuple, iRan1_ap, bLen_list, bLen_tuple, bInt_int, bAbs_int, bName, bNil, bCons, bTup, List.getElem?_cons_zero, List.getElem?_cons_succ, List.set_cons_zero, List.set_cons_succ, List.length_cons, List.length_nil, noTok, if_true, if_false, decide_true, decide_false, Bool.not_true, Bool.not_false, setAll, List.map_cons, List.map_nil, truD, Bool.true_eq_false, Bool.false_eq_true, Option.bind_some, true_and, and_true, List.replicate, startR, List.cons_append, List.nil_append, Nat.sub_self, reduceIte, ↓reduceIte, isNon, LIM_eq, and_self, List.map_append, List.length_map, Int.toNat_natCast, Nat.zero_le, Nat.reduceLeDiff, Int.reduceNeg, Int.reduceLE, Int.reduceLT, Int.zero_add, ran1_int, ran2_int, noEx, eq_self, dI, dP, dPs]) ?_
  refine seq_nx (ρ1 := [.d (rowD p r), .d (rowD p s), .d (.int P), .own (wid p (accT p r s 0)), .un, .un]) (g1 := g1) (by
    have e0 : accT p r s 0 = fun _ => 0 := rfl
    have c1 : P ≤ (LIM : Int) ∧ -(2 ^ 62) ≤ P ∧ [PyData.int 0].length * P.toNat ≤ LIM := ⟨by rw [LIM_eq]; omega, by omega, by rw [LIM_eq]; show 1 * P.toNat ≤ _; omega⟩
    have hrep : (oRep (eLst (aCons (eC (.int 0)) aNil)) (eV 2)) [.d (rowD p r), .d (rowD p s), .d (.int P), .un, .un, .un] g1 = .ok (wid p (accT p r s 0)) g1 := by
      rw [e0, ← wid_zero]
      show (if P ≤ LIM ∧ -(2 ^ 62) ≤ P ∧ [PyData.int 0].length * P.toNat ≤ LIM then Out.ok (List.replicate P.toNat [PyData.int 0]).flatten g1 else .bad) = _
      rw [if_pos c1, show P.toNat = p by omega]
    generalize wid p (accT p r s 0) = L at *
    generalize rowD p r = R1 at *
    generalize rowD p s = R2 at *
    show ((oRep (eLst (aCons (eC (.int 0)) aNil)) (eV 2)) _ g1).go _ _ = _
    rw [hrep, go_ok]
    rfl) ?_
  refine seq_nx (show S__law_times_3 _ _ = _ from hw) ?_
  refine frz_own rfl ?_
  have hst := m__law_settled_eq (g := g1) (p := p) (W := accT p r s (p - 1)) (by omega) hp2
  have hco : rowD p (fun k => accT p r s (p - 1) k - accT p r s (p - 1) (p - 1)) = rowD p (mulR p r s) := by
    show PyData.tuple (wid (p - 1) _) = PyData.tuple (wid (p - 1) _)
    rw [wid_congr fun k _ => accT_mul]
  rw [hco] at hst
  change S__law_times_6 [.d (rowD p r), .d (rowD p s), .d (.int P), .d (.list (wid p (accT p r s (p - 1)))), y4, y5] g1 = _
  generalize wid p (accT p r s (p - 1)) = L at *
  generalize rowD p (mulR p r s) = R3 at *
  generalize rowD p r = R1 at *
  generalize rowD p s = R2 at *
  simp (disch := omega) only [S__law_times_6, hst, eV_ap, eC_ap, eBin_ap, eNeg_ap, tVal_ap, eIsN_ap, eNotN_ap, eChain_ap, tAndF_ap, tOrF_ap, tNotF_ap, tTru_ap, eAnd_ap, eOr_ap, eNot_ap, eIf_ap, aNil_ap, aCons_ap, eTup_ap, eLst_ap, oNone_ap, oSome_ap, eSl_ap, eCall_ap, iLst_ap, iTpl_ap, iRan2_apN, eOf_ap, oLst_ap, oCat_ap, oRep_ap, oSl_ap, oList_ap, oComp_ap, tYesF_ap, sNil_ap, sSeq_th, sBrk_ap, sCnt_ap, sExpr_ap, sRet_ap, sRetN_ap, sIf_ap, sSet_ap, sSetO_ap, sAsg_ap, sPar_ap, sPar3_ap, sAug_ap, sApp_ap, sExt_ap, sSetIx_ap, sFrz_ap, eIxO_ap, eLenO_ap, eIxA_ap, eLenA_ap, vOf_ap, vCons_ap, vOwn_ap, vOwn2_ap, sTup_ap, iSeq_ap, sRaise_ap, sTry_ap, eExF_ap, tIfF_ap, eRev_ap, eRevA_ap, eRevF_ap, th_nx, th_rt, th_bk, th_ct, th_exc, bind_ok, bind_exc, go_ok, go_exc, opAdd_int, opSub_int, opMul_a, opMul_b, opDiv_pos, opDiv_wide, opMod_pos, opI_int, opEq_int, opNe_int, opEq_bool, opNe_bool, atI_0, atI_1, atI_2, atI_3, opIx_list, opIx_tuple, iRan1_ap, bLen_list, bLen_tuple, bInt_int, bAbs_int, bName, bNil, bCons, bTup, List.getElem?_cons_zero, List.getElem?_cons_succ, List.set_cons_zero, List.set_cons_succ, List.length_cons, List.length_nil, noTok, if_true, if_false, decide_true, decide_false, Bool.not_true, Bool.not_false, setAll, List.map_cons, List.map_nil, truD, Bool.true_eq_false, Bool.false_eq_true, Option.bind_some, true_and, and_true, List.replicate, startR, List.cons_append, List.nil_append, Nat.sub_self, reduceIte, ↓reduceIte, isNon, LIM_eq, and_self, List.map_append, List.length_map, Int.toNat_natCast, Nat.zero_le, Nat.reduceLeDiff, Int.reduceNeg, Int.reduceLE, Int.reduceLT, Int.zero_add, ran1_int, ran2_int, noEx, eq_self, dI, dP, dPs]
end
end K19
namespace K19
open PySem
open PySem.Spec
open PyProof.Rows
open L2
open DL
theorem sm_abs {f : Nat → Int} {B : Nat} : ∀ {n : Nat}, (∀ i, i < n → (f i).natAbs ≤ B) → (sm n f).natAbs ≤ n * B
  | 0, _ => by
    show (0 : Int).natAbs ≤ _
    exact Nat.zero_le _
  | n + 1, h => by
    have h1 := sm_abs (n := n) fun i hi => h i (by omega)
    have h2 := h n (by omega)
    show (sm n f + f n).natAbs ≤ _
    rw [Nat.add_mul]
    omega
theorem rt_abs {p a k : Nat} : (rt p a k).natAbs ≤ 1 := by
  unfold rt ind
  split <;> split <;> decide
theorem bR.rt {p a : Nat} : bR 1 p (rt p a) := fun k _ => by
  have := rt_abs (p := p) (a := a) (k := k)
  unfold bd
  omega
theorem bR.mono {p n m : Nat} {r : Nat → Int} (h : bR n p r) (hm : n ≤ m) : bR m p r := fun k hk => (h k hk).mono hm
theorem bR.mul {p n m : Nat} {r s : Nat → Int} (hp : p ≤ 20) (hr : bR n p r) (hs : bR m p s) : bR (n + m + 10) p (mulR p r s) := fun k _ => by
  have h1 : ∀ i, i < p - 1 → ∀ j, j < p - 1 → (r i * s j * K19.rt p (i + j) k).natAbs ≤ 2 ^ (n + m) := fun i hi j hj => by
    have h2 := (hr i hi).mul (hs j hj)
    have h3 := rt_abs (p := p) (a := i + j) (k := k)
    unfold bd at h2
    rw [Int.natAbs_mul]
    have : (r i * s j).natAbs * (K19.rt p (i + j) k).natAbs ≤ (r i * s j).natAbs * 1 := Nat.mul_le_mul_left _ h3
    omega
  have h4 := sm_abs (n := p - 1) (f := fun i => sm (p - 1) fun j => r i * s j * K19.rt p (i + j) k) fun i hi => sm_abs fun j hj => h1 i hi j hj
  unfold bd
  have e : 2 ^ (n + m + 10) = 2 ^ 10 * 2 ^ (n + m) := by rw [Nat.pow_add 2 (n + m) 10, Nat.mul_comm]
  rw [e]
  have h5 : (p - 1) * ((p - 1) * 2 ^ (n + m)) ≤ 19 * (19 * 2 ^ (n + m)) := Nat.mul_le_mul (by omega) (Nat.mul_le_mul_right _ (by omega))
  have h6 : 0 < 2 ^ (n + m) := Nat.pow_pos (by decide)
  show (mulR p r s k).natAbs < _
  have h4 : (mulR p r s k).natAbs ≤ (p - 1) * ((p - 1) * 2 ^ (n + m)) := h4
  omega
theorem bR.mov {p n b : Nat} {r : Nat → Int} (hp : p ≤ 20) (hr : bR n p r) : bR (n + 5) p (movR p r b) := fun k _ => by
  have h1 : ∀ i, i < p - 1 → (r i * K19.rt p (i * b) k).natAbs ≤ 2 ^ n := fun i hi => by
    have h2 := hr i hi
    have h3 := rt_abs (p := p) (a := i * b) (k := k)
    unfold bd at h2
    rw [Int.natAbs_mul]
    have : (r i).natAbs * (K19.rt p (i * b) k).natAbs ≤ (r i).natAbs * 1 := Nat.mul_le_mul_left _ h3
    omega
  have h4 : (movR p r b k).natAbs ≤ (p - 1) * 2 ^ n := sm_abs fun i hi => h1 i hi
  unfold bd
  have e : 2 ^ (n + 5) = 2 ^ 5 * 2 ^ n := by rw [Nat.pow_add 2 n 5, Nat.mul_comm]
  have h5 : (p - 1) * 2 ^ n ≤ 19 * 2 ^ n := Nat.mul_le_mul_right _ (by omega)
  have h6 : 0 < 2 ^ n := Nat.pow_pos (by decide)
  omega
theorem rowD_congr {p : Nat} {r s : Nat → Int} (h : Eqr p r s) : rowD p r = rowD p s := by
  show PyData.tuple (wid (p - 1) r) = PyData.tuple (wid (p - 1) s)
  rw [wid_congr h]
section
variable {g : G}
theorem len_row {p : Nat} {r : Nat → Int} : bLen [rowD p r] g = .ok (.int ((p - 1 : Nat) : Int)) g := by
  show Out.ok (PyData.int ((wid (p - 1) r).length : Int)) g = _
  rw [wid_len]
theorem rep_zero {p : Nat} {P : Int} (hP : P = (p : Int)) (hp2 : p ≤ 1000) {fe : EF} {ρ : RS} (h : fe ρ g = .ok (.int P) g) : (oRep (eLst (aCons (eC (.int 0)) aNil)) fe) ρ g = .ok (wid p fun _ => 0) g := by
  have c1 : P ≤ (LIM : Int) ∧ -(2 ^ 62) ≤ P ∧ [PyData.int 0].length * P.toNat ≤ LIM := ⟨by rw [LIM_eq]; omega, by omega, by rw [LIM_eq]; show 1 * P.toNat ≤ _; omega⟩
  rw [oRep_ap, show (eLst (aCons (eC (.int 0)) aNil)) ρ g = .ok (.list [.int 0]) g from rfl, bind_ok, h, bind_ok, ← wid_zero]
  show (if P ≤ LIM ∧ -(2 ^ 62) ≤ P ∧ [PyData.int 0].length * P.toNat ≤ LIM then Out.ok (List.replicate P.toNat [PyData.int 0]).flatten g else .bad) = _
  rw [if_pos c1, show P.toNat = p by omega]
def accM (p : Nat) (r : Nat → Int) (b i : Nat) : Nat → Int := fun k => sm i fun a => r a * ind (a * b % p = k)
theorem accM_step {p b i : Nat} {r : Nat → Int} : (fun k => if k = i * b % p then accM p r b i (i * b % p) + r i else accM p r b i k) = accM p r b (i + 1) := by
  funext k
  show _ = accM p r b i k + r i * ind (i * b % p = k)
  by_cases e : k = i * b % p
  · rw [if_pos e, ← e]
    unfold ind
    rw [if_pos (rfl : k = k)]
    omega
  · rw [if_neg e]
    rw [show ind (i * b % p = k) = 0 from if_neg fun h => e h.symm]
    omega
theorem accM_mov {p b : Nat} {r : Nat → Int} {k : Nat} : accM p r b (p - 1) k - accM p r b (p - 1) (p - 1) = movR p r b k := by
  unfold accM movR
  rw [← sm_sub]
  refine sm_congr fun a _ => ?_
  unfold rt
  rw [Int.mul_sub]
theorem m_moved_eq {p b n : Nat} {r : Nat → Int} {B : Int} (hp : 2 ≤ p) (hp2 : p ≤ 1000) (hB : B = (b : Int)) (hb : b ≤ 1000) : m_moved [rowD p r, .int B] g = .ok (rowD p (movR p r b)) g := by
  have lr := len_row (p := p) (r := r) (g := g)
  obtain ⟨P, hP⟩ : ∃ P : Int, P = (p : Int) := ⟨_, rfl⟩
  obtain ⟨ρ1, g1, ⟨rfl, y4, rfl⟩, hw⟩ := sFor_run (fi := iRan1 (aCons (eCall bLen (aCons (eV 0) aNil)) aNil)) (b := bName 4) (f := B_moved_3) (items := upTo 0 (p - 1)) (ρ := [.d (rowD p r), .d (.int B), .d (.int P), .own (wid p (accM p r b 0)), .un]) (g := g) (g1 := g)
    (fun i ρ g' => g' = g ∧ ∃ y4 : SV, ρ = [.d (rowD p r), .d (.int B), .d (.int P), .own (wid p (accM p r b i)), y4]) (by
      have e := ran1_int (j := ((p - 1 : Nat) : Int)) (g := g) (by omega) (by omega)
      rw [Int.toNat_natCast] at e
      generalize rowD p r = R1 at *
      generalize wid p (accM p r b 0) = L at *
      simp (disch := omega) only [lr, e, eV_ap, eC_ap, eBin_ap, eNeg_ap, tVal_ap, eIsN_ap, eNotN_ap, eChain_ap, tAndF_ap, tOrF_ap, tNotF_ap, tTru_ap, eAnd_ap, eOr_ap, eNot_ap, eIf_ap, aNil_ap, aCons_ap, eTup_ap, eLst_ap, oNone_ap, oSome_ap, eSl_ap, eCall_ap, iLst_ap, iTpl_ap, iRan2_apN, eOf_ap, oLst_ap, oCat_ap, oRep_ap, oSl_ap, oList_ap, oComp_ap, tYesF_ap, sNil_ap, sSeq_th, sBrk_ap, sCnt_ap, sExpr_ap, sRet_ap, sRetN_ap, sIf_ap, sSet_ap, sSetO_ap, sAsg_ap, sPar_ap, sPar3_ap, sAug_ap, sApp_ap, sExt_ap, sSetIx_ap, sFrz_ap, eIxO_ap, eLenO_ap, eIxA_ap, eLenA_ap, vOf_ap, vCons_ap, vOwn_ap, vOwn2_ap, sTup_ap, iSeq_ap, sRaise_ap, sTry_ap, eExF_ap, tIfF_ap, eRev_ap, eRevA_ap, eRevF_ap, th_nx, th_rt, th_bk, th_ct, th_exc, bind_ok, bind_exc, go_ok, go_exc, opAdd_int, opSub_int, opMul_a, opMul_b, opDiv_pos, opDiv_wide, opMod_pos, opI_int, opEq_int, opNe_int, opEq_bool, opNe_bool, atI_0, atI_1, atI_2, atI_3, opIx_list, opIx_tuple, iRan1_ap, bLen_list, bLen_tuple, bInt_int, bAbs_int, bName, bNil, bCons, bTup, List.getElem?_cons_zero, List.getElem?_cons_succ, List.set_cons_zero, List.set_cons_succ, List.length_cons, List.length_nil, noTok, if_true, if_false, decide_true, decide_false, Bool.not_true, Bool.not_false, setAll, List.map_cons, List.map_nil, truD, Bool.true_eq_false, Bool.false_eq_true, Option.bind_some, true_and, and_true, List.replicate, startR, List.cons_append, List.nil_append, Nat.sub_self, reduceIte, ↓reduceIte, isNon, LIM_eq, and_self, List.map_append, List.length_map, Int.toNat_natCast, Nat.zero_le, Nat.reduceLeDiff, Int.reduceNeg, Int.reduceLE, Int.reduceLT, Int.zero_add, ran2_int, noEx, eq_self, dI, dP, dPs]) ⟨rfl, .un, rfl⟩ (by
      rintro i hi ρ g' ⟨rfl, y4, rfl⟩
      rw [upTo_len] at hi
      obtain ⟨I, hI⟩ : ∃ I : Int, I = (i : Int) := ⟨_, rfl⟩
      refine ⟨[.d (rowD p r), .d (.int B), .d (.int P), .own (wid p (accM p r b i)), .d (.int I)], [.d (rowD p r), .d (.int B), .d (.int P), .own (wid p (accM p r b (i + 1))), .d (.int I)], g', by
        rw [upTo_get (by rw [upTo_len]; exact hi), Int.zero_add, ← hI]
        rfl, .inl ?_, rfl, _, rfl⟩
      have hz : I * B % P = ((i * b % p : Nat) : Int) := by
        rw [hI, hB, hP, ← mod_nat]
        rfl
      have hml : i * b % p < p := Nat.mod_lt _ (by omega)
      have hmod : opMod (.int (I * B)) (.int P) g' = .ok (.int (I * B % P)) g' := opMod_pos (by omega)
      have hmul : opMul (.int I) (.int B) g' = .ok (.int (I * B)) g' := opMul_a (by omega) (by omega)
      have i1 : atI (wid (p - 1) r) I = some (.int (r i)) := atI_wid hI hi
      show sAugIx 3 (fun i j => i + j) (eBin opMod (eBin opMul (eV 4) (eV 1)) (eV 2)) (eBin opIx (eV 0) (eV 4)) [.d (rowD p r), .d (.int B), .d (.int P), .own (wid p (accM p r b i)), .d (.int I)] g' = _
      refine Eq.trans (aug_row (p := p) (W := accM p r b i) (m := i * b % p) (v := r i) (z := I * B % P) rfl ?_ hz hml ?_) ?_
      · generalize rowD p r = R1 at *
        generalize wid p (accM p r b i) = L at *
        simp (disch := omega) only [hmul, hmod, eV_ap, eC_ap, eBin_ap, eNeg_ap, tVal_ap, eIsN_ap, eNotN_ap, eChain_ap, tAndF_ap, tOrF_ap, tNotF_ap, tTru_ap, eAnd_ap, eOr_ap, eNot_ap, eIf_ap, aNil_ap, aCons_ap, eTup_ap, eLst_ap, oNone_ap, oSome_ap, eSl_ap, eCall_ap, iLst_ap, iTpl_ap, iRan2_apN, eOf_ap, oLst_ap, oCat_ap, oRep_ap, oSl_ap, oList_ap, oComp_ap, tYesF_ap, sNil_ap, sSeq_th, sBrk_ap, sCnt_ap, sExpr_ap, sRet_ap, sRetN_ap, sIf_ap, sSet_ap, sSetO_ap, sAsg_ap, sPar_ap, sPar3_ap, sAug_ap, sApp_ap, sExt_ap, sSetIx_ap, sFrz_ap, eIxO_ap, eLenO_ap, eIxA_ap, eLenA_ap, vOf_ap, vCons_ap, vOwn_ap, vOwn2_ap, sTup_ap, iSeq_ap, sRaise_ap, sTry_ap, eExF_ap, tIfF_ap, eRev_ap, eRevA_ap, eRevF_ap, th_nx, th_rt, th_bk, th_ct, th_exc, bind_ok, bind_exc, go_ok, go_exc, opAdd_int, opSub_int, opDiv_pos, opDiv_wide, opI_int, opEq_int, opNe_int, opEq_bool, opNe_bool, atI_0, atI_1, atI_2, atI_3, opIx_list, opIx_tuple, iRan1_ap, bLen_list, bLen_tuple, bInt_int, bAbs_int, bName, bNil, bCons, bTup, List.getElem?_cons_zero, List.getElem?_cons_succ, List.set_cons_zero, List.set_cons_succ, List.length_cons, List.length_nil, noTok, if_true, if_false, decide_true, decide_false, Bool.not_true, Bool.not_false, setAll, List.map_cons, List.map_nil, truD, Bool.true_eq_false, Bool.false_eq_true, Option.bind_some, true_and, and_true, List.replicate, startR, List.cons_append, List.nil_append, Nat.sub_self, reduceIte, ↓reduceIte, isNon, LIM_eq, and_self, List.map_append, List.length_map, Int.toNat_natCast, Nat.zero_le, Nat.reduceLeDiff, Int.reduceNeg, Int.reduceLE, Int.reduceLT, Int.zero_add, ran1_int, ran2_int, noEx, eq_self, dI, dP, dPs]
      · change (eBin opIx (eV 0) (eV 4)) [.d (.tuple (wid (p - 1) r)), .d (.int B), .d (.int P), .own (wid p (accM p r b i)), .d (.int I)] g' = _
        generalize wid (p - 1) r = R1 at *
        generalize wid p (accM p r b i) = L at *
        simp (disch := omega) only [i1, eV_ap, eC_ap, eBin_ap, eNeg_ap, tVal_ap, eIsN_ap, eNotN_ap, eChain_ap, tAndF_ap, tOrF_ap, tNotF_ap, tTru_ap, eAnd_ap, eOr_ap, eNot_ap, eIf_ap, aNil_ap, aCons_ap, eTup_ap, eLst_ap, oNone_ap, oSome_ap, eSl_ap, eCall_ap, iLst_ap, iTpl_ap, iRan2_apN, eOf_ap, oLst_ap, oCat_ap, oRep_ap, oSl_ap, oList_ap, oComp_ap, tYesF_ap, sNil_ap, sSeq_th, sBrk_ap, sCnt_ap, sExpr_ap, sRet_ap, sRetN_ap, sIf_ap, sSet_ap, sSetO_ap, sAsg_ap, sPar_ap, sPar3_ap, sAug_ap, sApp_ap, sExt_ap, sSetIx_ap, sFrz_ap, eIxO_ap, eLenO_ap, eIxA_ap, eLenA_ap, vOf_ap, vCons_ap, vOwn_ap, vOwn2_ap, sTup_ap, iSeq_ap, sRaise_ap, sTry_ap, eExF_ap, tIfF_ap, eRev_ap, eRevA_ap, eRevF_ap, th_nx, th_rt, th_bk, th_ct, th_exc, bind_ok, bind_exc, go_ok, go_exc, opAdd_int, opSub_int, opMul_a, opMul_b, opDiv_pos, opDiv_wide, opMod_pos, opI_int, opEq_int, opNe_int, opEq_bool, opNe_bool, atI_0, atI_1, atI_2, atI_3, opIx_list, opIx_tuple, iRan1_ap, bLen_list, bLen_tuple, bInt_int, bAbs_int, bName, bNil, bCons, bTup, List.getElem?_cons_zero, List.getElem?_cons_succ, List.set_cons_zero, List.set_cons_succ, List.length_cons, List.length_nil, noTok, if_true, if_false, decide_true, decide_false, Bool.not_true, Bool.not_false, setAll, List.map_cons, List.map_nil, truD, Bool.true_eq_false, Bool.false_eq_true, Option.bind_some, true_and, and_true, List.replicate, startR, List.cons_append, List.nil_append, Nat.sub_self, reduceIte, ↓reduceIte, isNon, LIM_eq, and_self, List.map_append, List.length_map, Int.toNat_natCast, Nat.zero_le, Nat.reduceLeDiff, Int.reduceNeg, Int.reduceLE, Int.reduceLT, Int.zero_add, ran1_int, ran2_int, noEx, eq_self, dI, dP, dPs]
      · show SO.nx [.d (rowD p r), .d (.int B), .d (.int P), .own (wid p fun k => if k = i * b % p then accM p r b i (i * b % p) + r i else accM p r b i k), .d (.int I)] g' = _
        rw [accM_step])
  rw [upTo_len] at hw
  refine m_rt (np := 2) rfl ?_
  refine Eq.trans (b := sem_moved [.d (rowD p r), .d (.int B), .un, .un, .un] g1) rfl ?_
  refine seq_nx (ρ1 := [.d (rowD p r), .d (.int B), .d (.int P), .un, .un]) (g1 := g1) (by
    have hP2 : ((p - 1 : Nat) : Int) + 1 = P := by omega
    rw [← hP2]
    generalize rowD p r = R1 at *
    generalize ((p - 1 : Nat) : Int) = Q at *
    simp (disch := omega) only [S_moved_1, lr, eV_ap, eC_ap, eBin_ap, eNeg_ap, tVal_ap, eIsN_ap, eNotN_ap, eChain_ap, tAndF_ap, tOrF_ap, tNotF_ap, tTru_ap, eAnd_ap, eOr_ap, eNot_ap, eIf_ap, aNil_ap, aCons_ap, eTup_ap, eLst_ap, oNone_ap, oSome_ap, eSl_ap, eCall_ap, iLst_ap, iTpl_ap, iRan2_apN, eOf_ap, oLst_ap, oCat_ap, oRep_ap, oSl_ap, oList_ap, oComp_ap, tYesF_ap, sNil_ap, sSeq_th, sBrk_ap, sCnt_ap, sExpr_ap, sRet_ap, sRetN_ap, sIf_ap, sSet_ap, sSetO_ap, sAsg_ap, sPar_ap, sPar3_ap, sAug_ap, sApp_ap, sExt_ap, sSetIx_ap, sFrz_ap, eIxO_ap, eLenO_ap, eIxA_ap, eLenA_ap, vOf_ap, vCons_ap, vOwn_ap, vOwn2_ap, sTup_ap, iSeq_ap, sRaise_ap, sTry_ap, eExF_ap, tIfF_ap, eRev_ap, eRevA_ap, eRevF_ap, th_nx, th_rt, th_bk, th_ct, th_exc, bind_ok, bind_exc, go_ok, go_exc, opAdd_int, opSub_int, opMul_a, opMul_b, opDiv_pos, opDiv_wide, opMod_pos, opI_int, opEq_int, opNe_int, opEq_bool, opNe_bool, atI_0, atI_1, atI_2, atI_3, opIx_list, opIx_tuple, iRan1_ap, bLen_list, bLen_tuple, bInt_int, bAbs_int, bName, bNil, bCons, bTup, List.getElem?_cons_zero, List.getElem?_cons_succ, List.set_cons_zero, List.set_cons_succ, List.length_cons, List.length_nil, noTok, if_true, if_false, decide_true, decide_false, Bool.not_true, Bool.not_false, setAll, List.map_cons, List.map_nil, truD, Bool.true_eq_false, Bool.false_eq_true, Option.bind_some, true_and, and_true, List.replicate, startR, List.cons_append, List.nil_append, Nat.sub_self, reduceIte, ↓reduceIte, isNon, LIM_eq, and_self, List.map_append, List.length_map, Int.toNat_natCast, Nat.zero_le, Nat.reduceLeDiff, Int.reduceNeg, Int.reduceLE, Int.reduceLT, Int.zero_add, ran1_int, ran2_int, noEx, eq_self, dI, dP, dPs]) ?_
  refine seq_nx (ρ1 := [.d (rowD p r), .d (.int B), .d (.int P), .own (wid p (accM p r b 0)), .un]) (g1 := g1) (by
    show ((oRep (eLst (aCons (eC (.int 0)) aNil)) (eV 2)) _ g1).go _ _ = _
    rw [rep_zero (p := p) hP hp2 rfl, go_ok]
    rfl) ?_
  refine seq_nx (show S_moved_3 _ _ = _ from hw) ?_
  refine frz_own rfl ?_
  have hst := m_settled_eq (g := g1) (p := p) (W := accM p r b (p - 1)) (by omega) hp2
  have hco : rowD p (fun k => accM p r b (p - 1) k - accM p r b (p - 1) (p - 1)) = rowD p (movR p r b) := rowD_congr fun k _ => accM_mov
  rw [hco] at hst
  change S_moved_5 [.d (rowD p r), .d (.int B), .d (.int P), .d (.list (wid p (accM p r b (p - 1)))), y4] g1 = _
  generalize wid p (accM p r b (p - 1)) = L at *
  generalize rowD p (movR p r b) = R3 at *
  generalize rowD p r = R1 at *
  simp (disch := omega) only [S_moved_5, hst, eV_ap, eC_ap, eBin_ap, eNeg_ap, tVal_ap, eIsN_ap, eNotN_ap, eChain_ap, tAndF_ap, tOrF_ap, tNotF_ap, tTru_ap, eAnd_ap, eOr_ap, eNot_ap, eIf_ap, aNil_ap, aCons_ap, eTup_ap, eLst_ap, oNone_ap, oSome_ap, eSl_ap, eCall_ap, iLst_ap, iTpl_ap, iRan2_apN, eOf_ap, oLst_ap, oCat_ap, oRep_ap, oSl_ap, oList_ap, oComp_ap, tYesF_ap, sNil_ap, sSeq_th, sBrk_ap, sCnt_ap, sExpr_ap, sRet_ap, sRetN_ap, sIf_ap, sSet_ap, sSetO_ap, sAsg_ap, sPar_ap, sPar3_ap, sAug_ap, sApp_ap, sExt_ap, sSetIx_ap, sFrz_ap, eIxO_ap, eLenO_ap, eIxA_ap, eLenA_ap, vOf_ap, vCons_ap, vOwn_ap, vOwn2_ap, sTup_ap, iSeq_ap, sRaise_ap, sTry_ap, eExF_ap, tIfF_ap, eRev_ap, eRevA_ap, eRevF_ap, th_nx, th_rt, th_bk, th_ct, th_exc, bind_ok, bind_exc, go_ok, go_exc, opAdd_int, opSub_int, opMul_a, opMul_b, opDiv_pos, opDiv_wide, opMod_pos, opI_int, opEq_int, opNe_int, opEq_bool, opNe_bool, atI_0, atI_1, atI_2, atI_3, opIx_list, opIx_tuple, iRan1_ap, bLen_list, bLen_tuple, bInt_int, bAbs_int, bName, bNil, bCons, bTup, List.getElem?_cons_zero, List.getElem?_cons_succ, List.set_cons_zero, List.set_cons_succ, List.length_cons, List.length_nil, noTok, if_true, if_false, decide_true, decide_false, Bool.not_true, Bool.not_false, setAll, List.map_cons, List.map_nil, truD, Bool.true_eq_false, Bool.false_eq_true, Option.bind_some, true_and, and_true, List.replicate, startR, List.cons_append, List.nil_append, Nat.sub_self, reduceIte, ↓reduceIte, isNon, LIM_eq, and_self, List.map_append, List.length_map, Int.toNat_natCast, Nat.zero_le, Nat.reduceLeDiff, Int.reduceNeg, Int.reduceLE, Int.reduceLT, Int.zero_add, ran1_int, ran2_int, noEx, eq_self, dI, dP, dPs]
def one1 (m : Nat) : Nat → Int := fun k => if k = m then 1 else 0
theorem one1_rt {p m k : Nat} (hm : m < p) : one1 m k - one1 m (p - 1) = rt p m k := by
  have e1 : ∀ a : Nat, (if m = a then (1 : Int) else 0) = if a = m then 1 else 0 := fun a => by
    by_cases h : a = m
    · rw [if_pos h, if_pos h.symm]
    · rw [if_neg h, if_neg fun e => h e.symm]
  unfold one1 rt ind
  rw [Nat.mod_eq_of_lt hm, e1, e1]
theorem m_root_power_eq {p m : Nat} {P a : Int} (hP : P = (p : Int)) (hp : 2 ≤ p) (hp2 : p ≤ 1000) (hm : a % P = (m : Int)) : m_root_power [.int P, .int a] g = .ok (rowD p (rt p m)) g := by
  have hml : m < p := by
    have := Int.emod_lt_of_pos a (show 0 < P by omega)
    omega
  have hmod : opMod (.int a) (.int P) g = .ok (.int (a % P)) g := opMod_pos (by omega)
  refine m_rt (np := 2) rfl ?_
  refine Eq.trans (b := sem_root_power [.d (.int P), .d (.int a), .un] g) rfl ?_
  refine seq_nx (ρ1 := [.d (.int P), .d (.int a), .own (wid p fun _ => 0)]) (g1 := g) (by
    show ((oRep (eLst (aCons (eC (.int 0)) aNil)) (eV 0)) _ g).go _ _ = _
    rw [rep_zero (p := p) hP hp2 rfl, go_ok]
    rfl) ?_
  refine seq_nx (ρ1 := [.d (.int P), .d (.int a), .own (wid p (one1 m))]) (g1 := g) (by
    show sSetIx 2 (eC (.int 1)) (eBin opMod (eV 1) (eV 0)) [.d (.int P), .d (.int a), .own (wid p fun _ => 0)] g = _
    refine Eq.trans (set_row (p := p) (W := fun _ => 0) (m := m) (v := 1) (z := a % P) rfl rfl ?_ hm hml) rfl
    generalize (wid p fun _ => 0) = L at *
    simp (disch := omega) only [hmod, eV_ap, eC_ap, eBin_ap, eNeg_ap, tVal_ap, eIsN_ap, eNotN_ap, eChain_ap, tAndF_ap, tOrF_ap, tNotF_ap, tTru_ap, eAnd_ap, eOr_ap, eNot_ap, eIf_ap, aNil_ap, aCons_ap, eTup_ap, eLst_ap, oNone_ap, oSome_ap, eSl_ap, eCall_ap, iLst_ap, iTpl_ap, iRan2_apN, eOf_ap, oLst_ap, oCat_ap, oRep_ap, oSl_ap, oList_ap, oComp_ap, tYesF_ap, sNil_ap, sSeq_th, sBrk_ap, sCnt_ap, sExpr_ap, sRet_ap, sRetN_ap, sIf_ap, sSet_ap, sSetO_ap, sAsg_ap, sPar_ap, sPar3_ap, sAug_ap, sApp_ap, sExt_ap, sSetIx_ap, sFrz_ap, eIxO_ap, eLenO_ap, eIxA_ap, eLenA_ap, vOf_ap, vCons_ap, vOwn_ap, vOwn2_ap, sTup_ap, iSeq_ap, sRaise_ap, sTry_ap, eExF_ap, tIfF_ap, eRev_ap, eRevA_ap, eRevF_ap, th_nx, th_rt, th_bk, th_ct, th_exc, bind_ok, bind_exc, go_ok, go_exc, opAdd_int, opSub_int, opMul_a, opMul_b, opDiv_pos, opDiv_wide, opI_int, opEq_int, opNe_int, opEq_bool, opNe_bool, atI_0, atI_1, atI_2, atI_3, opIx_list, opIx_tuple, iRan1_ap, bLen_list, bLen_tuple, bInt_int, bAbs_int, bName, bNil, bCons, bTup, List.getElem?_cons_zero, List.getElem?_cons_succ, List.set_cons_zero, List.set_cons_succ, List.length_cons, List.length_nil, noTok, if_true, if_false, decide_true, decide_false, Bool.not_true, Bool.not_false, setAll, List.map_cons, List.map_nil, truD, Bool.true_eq_false, Bool.false_eq_true, Option.bind_some, true_and, and_true, List.replicate, startR, List.cons_append, List.nil_append, Nat.sub_self, reduceIte, ↓reduceIte, isNon, LIM_eq, and_self, List.map_append, List.length_map, Int.toNat_natCast, Nat.zero_le, Nat.reduceLeDiff, Int.reduceNeg, Int.reduceLE, Int.reduceLT, Int.zero_add, ran1_int, ran2_int, noEx, eq_self, dI, dP, dPs]) ?_
  refine frz_own rfl ?_
  have hst := m_settled_eq (g := g) (p := p) (W := one1 m) (by omega) hp2
  have hco : rowD p (fun k => one1 m k - one1 m (p - 1)) = rowD p (rt p m) := rowD_congr fun k _ => one1_rt hml
  rw [hco] at hst
  change S_root_power_3 [.d (.int P), .d (.int a), .d (.list (wid p (one1 m)))] g = _
  generalize wid p (one1 m) = L at *
  generalize rowD p (rt p m) = R3 at *
  simp (disch := omega) only [S_root_power_3, hst, eV_ap, eC_ap, eBin_ap, eNeg_ap, tVal_ap, eIsN_ap, eNotN_ap, eChain_ap, tAndF_ap, tOrF_ap, tNotF_ap, tTru_ap, eAnd_ap, eOr_ap, eNot_ap, eIf_ap, aNil_ap, aCons_ap, eTup_ap, eLst_ap, oNone_ap, oSome_ap, eSl_ap, eCall_ap, iLst_ap, iTpl_ap, iRan2_apN, eOf_ap, oLst_ap, oCat_ap, oRep_ap, oSl_ap, oList_ap, oComp_ap, tYesF_ap, sNil_ap, sSeq_th, sBrk_ap, sCnt_ap, sExpr_ap, sRet_ap, sRetN_ap, sIf_ap, sSet_ap, sSetO_ap, sAsg_ap, sPar_ap, sPar3_ap, sAug_ap, sApp_ap, sExt_ap, sSetIx_ap, sFrz_ap, eIxO_ap, eLenO_ap, eIxA_ap, eLenA_ap, vOf_ap, vCons_ap, vOwn_ap, vOwn2_ap, sTup_ap, iSeq_ap, sRaise_ap, sTry_ap, eExF_ap, tIfF_ap, eRev_ap, eRevA_ap, eRevF_ap, th_nx, th_rt, th_bk, th_ct, th_exc, bind_ok, bind_exc, go_ok, go_exc, opAdd_int, opSub_int, opMul_a, opMul_b, opDiv_pos, opDiv_wide, opMod_pos, opI_int, opEq_int, opNe_int, opEq_bool, opNe_bool, atI_0, atI_1, atI_2, atI_3, opIx_list, opIx_tuple, iRan1_ap, bLen_list, bLen_tuple, bInt_int, bAbs_int, bName, bNil, bCons, bTup, List.getElem?_cons_zero, List.getElem?_cons_succ, List.set_cons_zero, List.set_cons_succ, List.length_cons, List.length_nil, noTok, if_true, if_false, decide_true, decide_false, Bool.not_true, Bool.not_false, setAll, List.map_cons, List.map_nil, truD, Bool.true_eq_false, Bool.false_eq_true, Option.bind_some, true_and, and_true, List.replicate, startR, List.cons_append, List.nil_append, Nat.sub_self, reduceIte, ↓reduceIte, isNon, LIM_eq, and_self, List.map_append, List.length_map, Int.toNat_natCast, Nat.zero_le, Nat.reduceLeDiff, Int.reduceNeg, Int.reduceLE, Int.reduceLT, Int.zero_add, ran1_int, ran2_int, noEx, eq_self, dI, dP, dPs]
def whR (x : Int) : Nat → Int := fun k => if k = 0 then x else 0
theorem tail_row {p : Nat} {P x : Int} (hP : P = (p : Int)) (hp : 3 ≤ p) (hp2 : p ≤ 1000) : opMulT (.tuple [.int 0]) (.int (P - 2)) g = .ok (.tuple (wid (p - 2) fun _ => 0)) g ∧ opAdd (.tuple [.int x]) (.tuple (wid (p - 2) fun _ => 0)) g = .ok (rowD p (whR x)) g := by
  refine ⟨?_, ?_⟩
  · show (if 1 ≤ P - 2 ∧ P - 2 ≤ 1000 ∧ 1 ≤ [PyData.int 0].length ∧ [PyData.int 0].length ≤ 1000 then Out.ok (PyData.tuple (List.replicate (P - 2).toNat [PyData.int 0]).flatten) g else .bad) = _
    rw [if_pos ⟨by omega, by omega, by decide, by decide⟩, show (P - 2).toNat = p - 2 by omega, wid_zero]
  · show (if [PyData.int x].length + (wid (p - 2) fun _ => 0).length ≤ LIM then Out.ok (PyData.tuple ([.int x] ++ wid (p - 2) fun _ => 0)) g else .bad) = _
    rw [if_pos (by rw [wid_len, LIM_eq]; show 1 + (p - 2) ≤ _; omega)]
    have : [PyData.int x] ++ wid (p - 2) (fun _ => 0) = wid (p - 1) (whR x) := by
      refine wid_ext (by rw [List.length_append, wid_len]; show 1 + (p - 2) = _; omega) fun i hi => ?_
      cases i with
      | zero => rfl
      | succ i =>
        show (wid (p - 2) fun _ => 0)[i]? = _
        rw [wid_get (by omega)]
        rfl
    rw [this]
theorem zeros_row {p : Nat} {P : Int} (hP : P = (p : Int)) (hp : 3 ≤ p) (hp2 : p ≤ 1000) : opMulT (.tuple [.int 0]) (.int (P - 1)) g = .ok (rowD p fun _ => 0) g := by
  show (if 1 ≤ P - 1 ∧ P - 1 ≤ 1000 ∧ 1 ≤ [PyData.int 0].length ∧ [PyData.int 0].length ≤ 1000 then Out.ok (PyData.tuple (List.replicate (P - 1).toNat [PyData.int 0]).flatten) g else .bad) = _
  rw [if_pos ⟨by omega, by omega, by decide, by decide⟩, show (P - 1).toNat = p - 1 by omega, wid_zero]
theorem m_whole_eq {p : Nat} {P x : Int} (hP : P = (p : Int)) (hp : 3 ≤ p) (hp2 : p ≤ 1000) : m_whole [.int P, .int x] g = .ok (rowD p (whR x)) g := by
  obtain ⟨e1, e2⟩ := tail_row (g := g) (x := x) hP hp hp2
  refine m_rt (np := 2) rfl ?_
  refine Eq.trans (b := sem_whole [.d (.int P), .d (.int x)] g) rfl ?_
  generalize rowD p (whR x) = R at *
  generalize (wid (p - 2) fun _ => 0) = L at *
  simp (disch := omega) only [sem_whole, S_whole_1, e1, e2, eV_ap, eC_ap, eBin_ap, eNeg_ap, tVal_ap, eIsN_ap, eNotN_ap, eChain_ap, tAndF_ap, tOrF_ap, tNotF_ap, tTru_ap, eAnd_ap, eOr_ap, eNot_ap, eIf_ap, aNil_ap, aCons_ap, eTup_ap, eLst_ap, oNone_ap, oSome_ap, eSl_ap, eCall_ap, iLst_ap, iTpl_ap, iRan2_apN, eOf_ap, oLst_ap, oCat_ap, oRep_ap, oSl_ap, oList_ap, oComp_ap, tYesF_ap, sNil_ap, sSeq_th, sBrk_ap, sCnt_ap, sExpr_ap, sRet_ap, sRetN_ap, sIf_ap, sSet_ap, sSetO_ap, sAsg_ap, sPar_ap, sPar3_ap, sAug_ap, sApp_ap, sExt_ap, sSetIx_ap, sFrz_ap, eIxO_ap, eLenO_ap, eIxA_ap, eLenA_ap, vOf_ap, vCons_ap, vOwn_ap, vOwn2_ap, sTup_ap, iSeq_ap, sRaise_ap, sTry_ap, eExF_ap, tIfF_ap, eRev_ap, eRevA_ap, eRevF_ap, th_nx, th_rt, th_bk, th_ct, th_exc, bind_ok, bind_exc, go_ok, go_exc, opAdd_int, opSub_int, opMul_a, opMul_b, opDiv_pos, opDiv_wide, opMod_pos, opI_int, opEq_int, opNe_int, opEq_bool, opNe_bool, atI_0, atI_1, atI_2, atI_3, opIx_list, opIx_tuple, iRan1_ap, bLen_list, bLen_tuple, bInt_int, bAbs_int, bName, bNil, bCons, bTup, List.getElem?_cons_zero, List.getElem?_cons_succ, List.set_cons_zero, List.set_cons_succ, List.length_cons, List.length_nil, noTok, if_true, if_false, decide_true, decide_false, Bool.not_true, Bool.not_false, setAll, List.map_cons, List.map_nil, truD, Bool.true_eq_false, Bool.false_eq_true, Option.bind_some, true_and, and_true, List.replicate, startR, List.cons_append, List.nil_append, Nat.sub_self, reduceIte, ↓reduceIte, isNon, LIM_eq, and_self, List.map_append, List.length_map, Int.toNat_natCast, Nat.zero_le, Nat.reduceLeDiff, Int.reduceNeg, Int.reduceLE, Int.reduceLT, Int.zero_add, ran1_int, ran2_int, noEx, eq_self, dI, dP, dPs]
theorem whR_one {p k : Nat} (hp : 2 ≤ p) (hk : k < p - 1) : whR 1 k = one p k := by
  unfold whR one rt ind
  rw [Nat.zero_mod, if_neg (by omega : ¬ 0 = p - 1)]
  by_cases h : k = 0
  · rw [if_pos h, if_pos h.symm]
    rfl
  · rw [if_neg h, if_neg fun e => h e.symm]
    rfl
def pwR (p : Nat) (r : Nat → Int) : Nat → Nat → Int
  | 0 => one p
  | k + 1 => mulR p (pwR p r k) r
theorem pwR_sq {p : Nat} {r : Nat → Int} (hp : 2 ≤ p) : ∀ k, Eqr p (pwR p (mulR p r r) k) (pwR p r (2 * k))
  | 0 => fun _ _ => rfl
  | k + 1 => fun i hi => by
    show mulR p (pwR p (mulR p r r) k) (mulR p r r) i = mulR p (mulR p (pwR p r (2 * k)) r) r i
    rw [mulR_congr (pwR_sq hp k) (fun _ _ => rfl), mulR_assoc hp (by omega)]
theorem bR.pw {p n : Nat} {r : Nat → Int} (hp : p ≤ 20) (hr : bR n p r) : ∀ k, bR (1 + k * (n + 10)) p (pwR p r k)
  | 0 => by
    rw [Nat.zero_mul]
    exact bR.rt
  | k + 1 => by
    refine (bR.mul hp (bR.pw hp hr k) hr).mono ?_
    rw [Nat.add_mul]
    omega
theorem m_power_eq {p n K : Nat} {r : Nat → Int} (hp : 3 ≤ p) (hp2 : p ≤ 20) (hr : bR n p r) (hn : 1 ≤ n) (hK : (n + 10) * (K + 1) ≤ 4000) : m_power [rowD p r, .int K] g = .ok (rowD p (pwR p r K)) g := by
  obtain ⟨ρ1, g1, ⟨rfl, y0, y1, f, hf, rfl⟩, hw⟩ := sWhile_run (t := W_power_2) (f := B_power_2) (N := 1000000000000000000000000000000) (g := g) (ρ := [.d (rowD p r), .d (.int K), .d (rowD p (one p))])
    (fun k ρ g' => g' = g ∧ ∃ (o f : Nat → Int) (s c : Nat) (z : Int), z = k ∧ Eqr p (mulR p f (pwR p o k)) (pwR p r K) ∧ bR c p o ∧ bR c p f ∧ c + 10 ≤ (n + 10) * 2 ^ s ∧ k * 2 ^ s ≤ K ∧ ρ = [.d (rowD p o), .d (.int z), .d (rowD p f)])
    (fun ρ g' => g' = g ∧ ∃ (y0 y1 : SV) (f : Nat → Int), Eqr p f (pwR p r K) ∧ ρ = [y0, y1, .d (rowD p f)]) (m := K) ⟨rfl, r, one p, 0, n, K, rfl, fun k hk => mulR_one (by omega) hk, hr, bR.rt.mono hn, by omega, by omega, rfl⟩ (by
      have : 1 * (K + 1) ≤ (n + 10) * (K + 1) := Nat.mul_le_mul_right _ (by omega)
      omega) (by
      rintro k ρ g' ⟨rfl, o, f, s, c, z, hz, he, b1, b2, hc, hk, rfl⟩
      by_cases h0 : k = 0
      · left
        subst h0
        have hz0 : ¬ z > 0 := by omega
        refine ⟨?_, rfl, _, _, f, fun i hi => ?_, rfl⟩
        · generalize rowD p o = D1 at *
          generalize rowD p f = D2 at *
          simp (disch := omega) only [W_power_2, hz0, eV_ap, eC_ap, eBin_ap, eNeg_ap, tVal_ap, eIsN_ap, eNotN_ap, eChain_ap, tAndF_ap, tOrF_ap, tNotF_ap, tTru_ap, eAnd_ap, eOr_ap, eNot_ap, eIf_ap, aNil_ap, aCons_ap, eTup_ap, eLst_ap, oNone_ap, oSome_ap, eSl_ap, eCall_ap, iLst_ap, iTpl_ap, iRan2_apN, eOf_ap, oLst_ap, oCat_ap, oRep_ap, oSl_ap, oList_ap, oComp_ap, tYesF_ap, sNil_ap, sSeq_th, sBrk_ap, sCnt_ap, sExpr_ap, sRet_ap, sRetN_ap, sIf_ap, sSet_ap, sSetO_ap, sAsg_ap, sPar_ap, sPar3_ap, sAug_ap, sApp_ap, sExt_ap, sSetIx_ap, sFrz_ap, eIxO_ap, eLenO_ap, eIxA_ap, eLenA_ap, vOf_ap, vCons_ap, vOwn_ap, vOwn2_ap, sTup_ap, iSeq_ap, sRaise_ap, sTry_ap, eExF_ap, tIfF_ap, eRev_ap, eRevA_ap, eRevF_ap, th_nx, th_rt, th_bk, th_ct, th_exc, bind_ok, bind_exc, go_ok, go_exc, opAdd_int, opSub_int, opMul_a, opMul_b, opDiv_pos, opDiv_wide, opMod_pos, opI_int, opEq_int, opNe_int, opEq_bool, opNe_bool, atI_0, atI_1, atI_2, atI_3, opIx_list, opIx_tuple, iRan1_ap, bLen_list, bLen_tuple, bInt_int, bAbs_int, bName, bNil, bCons, bTup, List.getElem?_cons_zero, List.getElem?_cons_succ, List.set_cons_zero, List.set_cons_succ, List.length_cons, List.length_nil, noTok, if_true, if_false, decide_true, decide_false, Bool.not_true, Bool.not_false, setAll, List.map_cons, List.map_nil, truD, Bool.true_eq_false, Bool.false_eq_true, Option.bind_some, true_and, and_true, List.replicate, startR, List.cons_append, List.nil_append, Nat.sub_self, reduceIte, ↓reduceIte, isNon, LIM_eq, and_self, List.map_append, List.length_map, Int.toNat_natCast, Nat.zero_le, Nat.reduceLeDiff, Int.reduceNeg, Int.reduceLE, Int.reduceLT, Int.zero_add, ran1_int, ran2_int, noEx, eq_self, dI, dP, dPs]
        · rw [← he i hi]
          show f i = mulR p f (one p) i
          rw [mulR_comm, mulR_one (by omega) hi]
      · right
        have hsK : 2 ^ s ≤ K := by
          have : 1 * 2 ^ s ≤ k * 2 ^ s := Nat.mul_le_mul_right _ (by omega)
          omega
        have hcK : c + 10 ≤ 4000 := by
          have h1 : (n + 10) * 2 ^ s ≤ (n + 10) * (K + 1) := Nat.mul_le_mul_left _ (by omega)
          omega
        have t1 := m_times_eq (g := g') (r := f) (s := o) (by omega) (by omega) b2 b1 (by omega)
        have t2 := m_times_eq (g := g') (r := o) (s := o) (by omega) (by omega) b1 b1 (by omega)
        have hz0 : z > 0 := by omega
        have hW : W_power_2 [.d (rowD p o), .d (.int z), .d (rowD p f)] g' = .ok true g' := by
          generalize rowD p o = D1 at *
          generalize rowD p f = D2 at *
          simp (disch := omega) only [W_power_2, hz0, eV_ap, eC_ap, eBin_ap, eNeg_ap, tVal_ap, eIsN_ap, eNotN_ap, eChain_ap, tAndF_ap, tOrF_ap, tNotF_ap, tTru_ap, eAnd_ap, eOr_ap, eNot_ap, eIf_ap, aNil_ap, aCons_ap, eTup_ap, eLst_ap, oNone_ap, oSome_ap, eSl_ap, eCall_ap, iLst_ap, iTpl_ap, iRan2_apN, eOf_ap, oLst_ap, oCat_ap, oRep_ap, oSl_ap, oList_ap, oComp_ap, tYesF_ap, sNil_ap, sSeq_th, sBrk_ap, sCnt_ap, sExpr_ap, sRet_ap, sRetN_ap, sIf_ap, sSet_ap, sSetO_ap, sAsg_ap, sPar_ap, sPar3_ap, sAug_ap, sApp_ap, sExt_ap, sSetIx_ap, sFrz_ap, eIxO_ap, eLenO_ap, eIxA_ap, eLenA_ap, vOf_ap, vCons_ap, vOwn_ap, vOwn2_ap, sTup_ap, iSeq_ap, sRaise_ap, sTry_ap, eExF_ap, tIfF_ap, eRev_ap, eRevA_ap, eRevF_ap, th_nx, th_rt, th_bk, th_ct, th_exc, bind_ok, bind_exc, go_ok, go_exc, opAdd_int, opSub_int, opMul_a, opMul_b, opDiv_pos, opDiv_wide, opMod_pos, opI_int, opEq_int, opNe_int, opEq_bool, opNe_bool, atI_0, atI_1, atI_2, atI_3, opIx_list, opIx_tuple, iRan1_ap, bLen_list, bLen_tuple, bInt_int, bAbs_int, bName, bNil, bCons, bTup, List.getElem?_cons_zero, List.getElem?_cons_succ, List.set_cons_zero, List.set_cons_succ, List.length_cons, List.length_nil, noTok, if_true, if_false, decide_true, decide_false, Bool.not_true, Bool.not_false, setAll, List.map_cons, List.map_nil, truD, Bool.true_eq_false, Bool.false_eq_true, Option.bind_some, true_and, and_true, List.replicate, startR, List.cons_append, List.nil_append, Nat.sub_self, reduceIte, ↓reduceIte, isNon, LIM_eq, and_self, List.map_append, List.length_map, Int.toNat_natCast, Nat.zero_le, Nat.reduceLeDiff, Int.reduceNeg, Int.reduceLE, Int.reduceLT, Int.zero_add, ran1_int, ran2_int, noEx, eq_self, dI, dP, dPs]
        have hc2 : 2 * c + 10 + 10 ≤ (n + 10) * 2 ^ (s + 1) := by
          rw [Nat.pow_succ, ← Nat.mul_assoc]
          omega
        have hk2 : k / 2 * 2 ^ (s + 1) ≤ K := by
          rw [Nat.pow_succ, Nat.mul_comm (2 ^ s) 2, ← Nat.mul_assoc]
          have : k / 2 * 2 * 2 ^ s ≤ k * 2 ^ s := Nat.mul_le_mul_right _ (by omega)
          omega
        have b3 : bR (2 * c + 10) p (mulR p o o) := (bR.mul hp2 b1 b1).mono (by omega)
        by_cases ho : z % 2 = 1
        · refine ⟨hW, k / 2, [.d (rowD p (mulR p o o)), .d (.int (z / 2)), .d (rowD p (mulR p f o))], g', by omega, .inl ?_, rfl, mulR p o o, mulR p f o, s + 1, 2 * c + 10, z / 2, by omega, fun i hi => ?_, b3, (bR.mul hp2 b2 b1).mono (by omega), hc2, hk2, rfl⟩
          · generalize rowD p (mulR p o o) = D3 at *
            generalize rowD p (mulR p f o) = D4 at *
            generalize rowD p o = D1 at *
            generalize rowD p f = D2 at *
            simp (disch := omega) only [B_power_2, S_power_3, S_power_4, S_power_5, ho, t1, t2, eV_ap, eC_ap, eBin_ap, eNeg_ap, tVal_ap, eIsN_ap, eNotN_ap, eChain_ap, tAndF_ap, tOrF_ap, tNotF_ap, tTru_ap, eAnd_ap, eOr_ap, eNot_ap, eIf_ap, aNil_ap, aCons_ap, eTup_ap, eLst_ap, oNone_ap, oSome_ap, eSl_ap, eCall_ap, iLst_ap, iTpl_ap, iRan2_apN, eOf_ap, oLst_ap, oCat_ap, oRep_ap, oSl_ap, oList_ap, oComp_ap, tYesF_ap, sNil_ap, sSeq_th, sBrk_ap, sCnt_ap, sExpr_ap, sRet_ap, sRetN_ap, sIf_ap, sSet_ap, sSetO_ap, sAsg_ap, sPar_ap, sPar3_ap, sAug_ap, sApp_ap, sExt_ap, sSetIx_ap, sFrz_ap, eIxO_ap, eLenO_ap, eIxA_ap, eLenA_ap, vOf_ap, vCons_ap, vOwn_ap, vOwn2_ap, sTup_ap, iSeq_ap, sRaise_ap, sTry_ap, eExF_ap, tIfF_ap, eRev_ap, eRevA_ap, eRevF_ap, th_nx, th_rt, th_bk, th_ct, th_exc, bind_ok, bind_exc, go_ok, go_exc, opAdd_int, opSub_int, opMul_a, opMul_b, opDiv_pos, opDiv_wide, opMod_pos, opI_int, opEq_int, opNe_int, opEq_bool, opNe_bool, atI_0, atI_1, atI_2, atI_3, opIx_list, opIx_tuple, iRan1_ap, bLen_list, bLen_tuple, bInt_int, bAbs_int, bName, bNil, bCons, bTup, List.getElem?_cons_zero, List.getElem?_cons_succ, List.set_cons_zero, List.set_cons_succ, List.length_cons, List.length_nil, noTok, if_true, if_false, decide_true, decide_false, Bool.not_true, Bool.not_false, setAll, List.map_cons, List.map_nil, truD, Bool.true_eq_false, Bool.false_eq_true, Option.bind_some, true_and, and_true, List.replicate, startR, List.cons_append, List.nil_append, Nat.sub_self, reduceIte, ↓reduceIte, isNon, LIM_eq, and_self, List.map_append, List.length_map, Int.toNat_natCast, Nat.zero_le, Nat.reduceLeDiff, Int.reduceNeg, Int.reduceLE, Int.reduceLT, Int.zero_add, ran1_int, ran2_int, noEx, eq_self, dI, dP, dPs]
          · rw [mulR_assoc (by omega) (by omega), ← he i hi]
            refine mulR_congr (fun _ _ => rfl) fun j hj => ?_
            rw [mulR_congr (fun _ _ => rfl) (pwR_sq (by omega) (k / 2)), mulR_comm]
            have : k = 2 * (k / 2) + 1 := by omega
            show pwR p o (2 * (k / 2) + 1) j = _
            rw [← this]
        · refine ⟨hW, k / 2, [.d (rowD p (mulR p o o)), .d (.int (z / 2)), .d (rowD p f)], g', by omega, .inl ?_, rfl, mulR p o o, f, s + 1, 2 * c + 10, z / 2, by omega, fun i hi => ?_, b3, b2.mono (by omega), hc2, hk2, rfl⟩
          · generalize rowD p (mulR p o o) = D3 at *
            generalize rowD p o = D1 at *
            generalize rowD p f = D2 at *
            simp (disch := omega) only [B_power_2, S_power_3, S_power_5, ho, t2, eV_ap, eC_ap, eBin_ap, eNeg_ap, tVal_ap, eIsN_ap, eNotN_ap, eChain_ap, tAndF_ap, tOrF_ap, tNotF_ap, tTru_ap, eAnd_ap, eOr_ap, eNot_ap, eIf_ap, aNil_ap, aCons_ap, eTup_ap, eLst_ap, oNone_ap, oSome_ap, eSl_ap, eCall_ap, iLst_ap, iTpl_ap, iRan2_apN, eOf_ap, oLst_ap, oCat_ap, oRep_ap, oSl_ap, oList_ap, oComp_ap, tYesF_ap, sNil_ap, sSeq_th, sBrk_ap, sCnt_ap, sExpr_ap, sRet_ap, sRetN_ap, sIf_ap, sSet_ap, sSetO_ap, sAsg_ap, sPar_ap, sPar3_ap, sAug_ap, sApp_ap, sExt_ap, sSetIx_ap, sFrz_ap, eIxO_ap, eLenO_ap, eIxA_ap, eLenA_ap, vOf_ap, vCons_ap, vOwn_ap, vOwn2_ap, sTup_ap, iSeq_ap, sRaise_ap, sTry_ap, eExF_ap, tIfF_ap, eRev_ap, eRevA_ap, eRevF_ap, th_nx, th_rt, th_bk, th_ct, th_exc, bind_ok, bind_exc, go_ok, go_exc, opAdd_int, opSub_int, opMul_a, opMul_b, opDiv_pos, opDiv_wide, opMod_pos, opI_int, opEq_int, opNe_int, opEq_bool, opNe_bool, atI_0, atI_1, atI_2, atI_3, opIx_list, opIx_tuple, iRan1_ap, bLen_list, bLen_tuple, bInt_int, bAbs_int, bName, bNil, bCons, bTup, List.getElem?_cons_zero, List.getElem?_cons_succ, List.set_cons_zero, List.set_cons_succ, List.length_cons, List.length_nil, noTok, if_true, if_false, decide_true, decide_false, Bool.not_true, Bool.not_false, setAll, List.map_cons, List.map_nil, truD, Bool.true_eq_false, Bool.false_eq_true, Option.bind_some, true_and, and_true, List.replicate, startR, List.cons_append, List.nil_append, Nat.sub_self, reduceIte, ↓reduceIte, isNon, LIM_eq, and_self, List.map_append, List.length_map, Int.toNat_natCast, Nat.zero_le, Nat.reduceLeDiff, Int.reduceNeg, Int.reduceLE, Int.reduceLT, Int.zero_add, ran1_int, ran2_int, noEx, eq_self, dI, dP, dPs]
          · rw [← he i hi]
            refine mulR_congr (fun _ _ => rfl) fun j hj => ?_
            rw [pwR_sq (by omega) (k / 2) j hj, show 2 * (k / 2) = k by omega])
  have lr := len_row (p := p) (r := r) (g := g1)
  obtain ⟨P, hP⟩ : ∃ P : Int, P = (p : Int) := ⟨_, rfl⟩
  have hwh := m_whole_eq (g := g1) (x := 1) hP hp (by omega)
  rw [rowD_congr fun k hk => whR_one (p := p) (by omega) hk] at hwh
  refine m_rt (np := 2) rfl ?_
  refine Eq.trans (b := sem_power [.d (rowD p r), .d (.int K), .un] g1) rfl ?_
  refine seq_nx (ρ1 := [.d (rowD p r), .d (.int K), .d (rowD p (one p))]) (g1 := g1) (by
    have hP2 : ((p - 1 : Nat) : Int) + 1 = P := by omega
    rw [← hP2] at hwh
    generalize rowD p (one p) = R3 at *
    generalize rowD p r = R1 at *
    generalize ((p - 1 : Nat) : Int) = Q at *
    simp (disch := omega) only [S_power_1, lr, hwh, eV_ap, eC_ap, eBin_ap, eNeg_ap, tVal_ap, eIsN_ap, eNotN_ap, eChain_ap, tAndF_ap, tOrF_ap, tNotF_ap, tTru_ap, eAnd_ap, eOr_ap, eNot_ap, eIf_ap, aNil_ap, aCons_ap, eTup_ap, eLst_ap, oNone_ap, oSome_ap, eSl_ap, eCall_ap, iLst_ap, iTpl_ap, iRan2_apN, eOf_ap, oLst_ap, oCat_ap, oRep_ap, oSl_ap, oList_ap, oComp_ap, tYesF_ap, sNil_ap, sSeq_th, sBrk_ap, sCnt_ap, sExpr_ap, sRet_ap, sRetN_ap, sIf_ap, sSet_ap, sSetO_ap, sAsg_ap, sPar_ap, sPar3_ap, sAug_ap, sApp_ap, sExt_ap, sSetIx_ap, sFrz_ap, eIxO_ap, eLenO_ap, eIxA_ap, eLenA_ap, vOf_ap, vCons_ap, vOwn_ap, vOwn2_ap, sTup_ap, iSeq_ap, sRaise_ap, sTry_ap, eExF_ap, tIfF_ap, eRev_ap, eRevA_ap, eRevF_ap, th_nx, th_rt, th_bk, th_ct, th_exc, bind_ok, bind_exc, go_ok, go_exc, opAdd_int, opSub_int, opMul_a, opMul_b, opDiv_pos, opDiv_wide, opMod_pos, opI_int, opEq_int, opNe_int, opEq_bool, opNe_bool, atI_0, atI_1, atI_2, atI_3, opIx_list, opIx_tuple, iRan1_ap, bLen_list, bLen_tuple, bInt_int, bAbs_int, bName, bNil, bCons, bTup, List.getElem?_cons_zero, List.getElem?_cons_succ, List.set_cons_zero, List.set_cons_succ, List.length_cons, List.length_nil, noTok, if_true, if_false, decide_true, decide_false, Bool.not_true, Bool.not_false, setAll, List.map_cons, List.map_nil, truD, Bool.true_eq_false, Bool.false_eq_true, Option.bind_some, true_and, and_true, List.replicate, startR, List.cons_append, List.nil_append, Nat.sub_self, reduceIte, ↓reduceIte, isNon, LIM_eq, and_self, List.map_append, List.length_map, Int.toNat_natCast, Nat.zero_le, Nat.reduceLeDiff, Int.reduceNeg, Int.reduceLE, Int.reduceLT, Int.zero_add, ran1_int, ran2_int, noEx, eq_self, dI, dP, dPs]) ?_
  refine seq_nx (show S_power_2 _ _ = _ from hw) ?_
  rw [← rowD_congr hf]
  generalize rowD p f = D1
  simp (disch := omega) only [S_power_6, eV_ap, eC_ap, eBin_ap, eNeg_ap, tVal_ap, eIsN_ap, eNotN_ap, eChain_ap, tAndF_ap, tOrF_ap, tNotF_ap, tTru_ap, eAnd_ap, eOr_ap, eNot_ap, eIf_ap, aNil_ap, aCons_ap, eTup_ap, eLst_ap, oNone_ap, oSome_ap, eSl_ap, eCall_ap, iLst_ap, iTpl_ap, iRan2_apN, eOf_ap, oLst_ap, oCat_ap, oRep_ap, oSl_ap, oList_ap, oComp_ap, tYesF_ap, sNil_ap, sSeq_th, sBrk_ap, sCnt_ap, sExpr_ap, sRet_ap, sRetN_ap, sIf_ap, sSet_ap, sSetO_ap, sAsg_ap, sPar_ap, sPar3_ap, sAug_ap, sApp_ap, sExt_ap, sSetIx_ap, sFrz_ap, eIxO_ap, eLenO_ap, eIxA_ap, eLenA_ap, vOf_ap, vCons_ap, vOwn_ap, vOwn2_ap, sTup_ap, iSeq_ap, sRaise_ap, sTry_ap, eExF_ap, tIfF_ap, eRev_ap, eRevA_ap, eRevF_ap, th_nx, th_rt, th_bk, th_ct, th_exc, bind_ok, bind_exc, go_ok, go_exc, opAdd_int, opSub_int, opMul_a, opMul_b, opDiv_pos, opDiv_wide, opMod_pos, opI_int, opEq_int, opNe_int, opEq_bool, opNe_bool, atI_0, atI_1, atI_2, atI_3, opIx_list, opIx_tuple, iRan1_ap, bLen_list, bLen_tuple, bInt_int, bAbs_int, bName, bNil, bCons, bTup, List.getElem?_cons_zero, List.getElem?_cons_succ, List.set_cons_zero, List.set_cons_succ, List.length_cons, List.length_nil, noTok, if_true, if_false, decide_true, decide_false, Bool.not_true, Bool.not_false, setAll, List.map_cons, List.map_nil, truD, Bool.true_eq_false, Bool.false_eq_true, Option.bind_some, true_and, and_true, List.replicate, startR, List.cons_append, List.nil_append, Nat.sub_self, reduceIte, ↓reduceIte, isNon, LIM_eq, and_self, List.map_append, List.length_map, Int.toNat_natCast, Nat.zero_le, Nat.reduceLeDiff, Int.reduceNeg, Int.reduceLE, Int.reduceLT, Int.zero_add, ran1_int, ran2_int, noEx, eq_self, dI, dP, dPs]
theorem m_plus_eq {p : Nat} {r s : Nat → Int} (hp2 : p ≤ 1000) : m_plus [rowD p r, rowD p s] g = .ok (rowD p fun k => r k + s k) g := by
  have lr := len_row (p := p) (r := r) (g := g)
  have hC : eOf C_plus_1 [.d (rowD p r), .d (rowD p s), .un] g = .ok (.list (wid (p - 1) fun k => r k + s k)) g := by
    have := comp_all (vs := [2]) (fi := iRan1 (aCons (eCall bLen (aCons (eV 0) aNil)) aNil)) (b := bName 2) (fe := eBin opAdd (eBin opIx (eV 0) (eV 2)) (eBin opIx (eV 1) (eV 2))) (ρ := [.d (rowD p r), .d (rowD p s), .un]) (g := g) (lo := 0) (n := p - 1) (fun x => .int (r x.toNat + s x.toNat)) (by
      have e := ran1_int (j := ((p - 1 : Nat) : Int)) (g := g) (by omega) (by omega)
      rw [Int.toNat_natCast] at e
      generalize rowD p r = R1 at *
      generalize rowD p s = R2 at *
      simp (disch := omega) only [lr, e, eV_ap, eC_ap, eBin_ap, eNeg_ap, tVal_ap, eIsN_ap, eNotN_ap, eChain_ap, tAndF_ap, tOrF_ap, tNotF_ap, tTru_ap, eAnd_ap, eOr_ap, eNot_ap, eIf_ap, aNil_ap, aCons_ap, eTup_ap, eLst_ap, oNone_ap, oSome_ap, eSl_ap, eCall_ap, iLst_ap, iTpl_ap, iRan2_apN, eOf_ap, oLst_ap, oCat_ap, oRep_ap, oSl_ap, oList_ap, oComp_ap, tYesF_ap, sNil_ap, sSeq_th, sBrk_ap, sCnt_ap, sExpr_ap, sRet_ap, sRetN_ap, sIf_ap, sSet_ap, sSetO_ap, sAsg_ap, sPar_ap, sPar3_ap, sAug_ap, sApp_ap, sExt_ap, sSetIx_ap, sFrz_ap, eIxO_ap, eLenO_ap, eIxA_ap, eLenA_ap, vOf_ap, vCons_ap, vOwn_ap, vOwn2_ap, sTup_ap, iSeq_ap, sRaise_ap, sTry_ap, eExF_ap, tIfF_ap, eRev_ap, eRevA_ap, eRevF_ap, th_nx, th_rt, th_bk, th_ct, th_exc, bind_ok, bind_exc, go_ok, go_exc, opAdd_int, opSub_int, opMul_a, opMul_b, opDiv_pos, opDiv_wide, opMod_pos, opI_int, opEq_int, opNe_int, opEq_bool, opNe_bool, atI_0, atI_1, atI_2, atI_3, opIx_list, opIx_tuple, iRan1_ap, bLen_list, bLen_tuple, bInt_int, bAbs_int, bName, bNil, bCons, bTup, List.getElem?_cons_zero, List.getElem?_cons_succ, List.set_cons_zero, List.set_cons_succ, List.length_cons, List.length_nil, noTok, if_true, if_false, decide_true, decide_false, Bool.not_true, Bool.not_false, setAll, List.map_cons, List.map_nil, truD, Bool.true_eq_false, Bool.false_eq_true, Option.bind_some, true_and, and_true, List.replicate, startR, List.cons_append, List.nil_append, Nat.sub_self, reduceIte, ↓reduceIte, isNon, LIM_eq, and_self, List.map_append, List.length_map, Int.toNat_natCast, Nat.zero_le, Nat.reduceLeDiff, Int.reduceNeg, Int.reduceLE, Int.reduceLT, Int.zero_add, ran2_int, noEx, eq_self, dI, dP, dPs]) (by omega) (fun x x0 x1 => by
      refine ⟨[.d (rowD p r), .d (rowD p s), .d (.int x)], rfl, ?_, rfl⟩
      have i1 : atI (wid (p - 1) r) x = some (.int (r x.toNat)) := atI_wid (by omega) (by omega)
      have i2 : atI (wid (p - 1) s) x = some (.int (s x.toNat)) := atI_wid (by omega) (by omega)
      change (eBin opAdd (eBin opIx (eV 0) (eV 2)) (eBin opIx (eV 1) (eV 2))) [.d (.tuple (wid (p - 1) r)), .d (.tuple (wid (p - 1) s)), .d (.int x)] g = _
      generalize wid (p - 1) r = R1 at *
      generalize wid (p - 1) s = R2 at *
      simp (disch := omega) only [i1, i2, eV_ap, eC_ap, eBin_ap, eNeg_ap, tVal_ap, eIsN_ap, eNotN_ap, eChain_ap, tAndF_ap, tOrF_ap, tNotF_ap, tTru_ap, eAnd_ap, eOr_ap, eNot_ap, eIf_ap, aNil_ap, aCons_ap, eTup_ap, eLst_ap, oNone_ap, oSome_ap, eSl_ap, eCall_ap, iLst_ap, iTpl_ap, iRan2_apN, eOf_ap, oLst_ap, oCat_ap, oRep_ap, oSl_ap, oList_ap, oComp_ap, tYesF_ap, sNil_ap, sSeq_th, sBrk_ap, sCnt_ap, sExpr_ap, sRet_ap, sRetN_ap, sIf_ap, sSet_ap, sSetO_ap, sAsg_ap, sPar_ap, sPar3_ap, sAug_ap, sApp_ap, sExt_ap, sSetIx_ap, sFrz_ap, eIxO_ap, eLenO_ap, eIxA_ap, eLenA_ap, vOf_ap, vCons_ap, vOwn_ap, vOwn2_ap, sTup_ap, iSeq_ap, sRaise_ap, sTry_ap, eExF_ap, tIfF_ap, eRev_ap, eRevA_ap, eRevF_ap, th_nx, th_rt, th_bk, th_ct, th_exc, bind_ok, bind_exc, go_ok, go_exc, opAdd_int, opSub_int, opMul_a, opMul_b, opDiv_pos, opDiv_wide, opMod_pos, opI_int, opEq_int, opNe_int, opEq_bool, opNe_bool, atI_0, atI_1, atI_2, atI_3, opIx_list, opIx_tuple, iRan1_ap, bLen_list, bLen_tuple, bInt_int, bAbs_int, bName, bNil, bCons, bTup, List.getElem?_cons_zero, List.getElem?_cons_succ, List.set_cons_zero, List.set_cons_succ, List.length_cons, List.length_nil, noTok, if_true, if_false, decide_true, decide_false, Bool.not_true, Bool.not_false, setAll, List.map_cons, List.map_nil, truD, Bool.true_eq_false, Bool.false_eq_true, Option.bind_some, true_and, and_true, List.replicate, startR, List.cons_append, List.nil_append, Nat.sub_self, reduceIte, ↓reduceIte, isNon, LIM_eq, and_self, List.map_append, List.length_map, Int.toNat_natCast, Nat.zero_le, Nat.reduceLeDiff, Int.reduceNeg, Int.reduceLE, Int.reduceLT, Int.zero_add, ran1_int, ran2_int, noEx, eq_self, dI, dP, dPs])
    show (C_plus_1 _ g).bind _ = _
    rw [show C_plus_1 = oComp [2] (iRan1 (aCons (eCall bLen (aCons (eV 0) aNil)) aNil)) (bName 2) tYesF (eBin opAdd (eBin opIx (eV 0) (eV 2)) (eBin opIx (eV 1) (eV 2))) from rfl, this, bind_ok]
    have e : (irg 0 (p - 1)).map (fun x => PyData.int (r x.toNat + s x.toNat)) = wid (p - 1) fun k => r k + s k := wid_ext (by rw [List.length_map, irg_len]) fun i hi => by
      rw [List.getElem?_map, irg_get hi, Int.zero_add]
      rfl
    rw [e]
  refine m_rt (np := 2) rfl ?_
  refine Eq.trans (b := sem_plus [.d (rowD p r), .d (rowD p s), .un] g) rfl ?_
  have hbt : bTuple [.list (wid (p - 1) fun k => r k + s k)] g = .ok (rowD p fun k => r k + s k) g := rfl
  generalize rowD p (fun k => r k + s k) = R at *
  generalize (wid (p - 1) fun k => r k + s k) = L2 at *
  generalize rowD p r = R1 at *
  generalize rowD p s = R2 at *
  simp (disch := omega) only [sem_plus, S_plus_1, hC, hbt, eV_ap, eC_ap, eBin_ap, eNeg_ap, tVal_ap, eIsN_ap, eNotN_ap, eChain_ap, tAndF_ap, tOrF_ap, tNotF_ap, tTru_ap, eAnd_ap, eOr_ap, eNot_ap, eIf_ap, aNil_ap, aCons_ap, eTup_ap, eLst_ap, oNone_ap, oSome_ap, eSl_ap, eCall_ap, iLst_ap, iTpl_ap, iRan2_apN, oLst_ap, oCat_ap, oRep_ap, oSl_ap, oList_ap, oComp_ap, tYesF_ap, sNil_ap, sSeq_th, sBrk_ap, sCnt_ap, sExpr_ap, sRet_ap, sRetN_ap, sIf_ap, sSet_ap, sSetO_ap, sAsg_ap, sPar_ap, sPar3_ap, sAug_ap, sApp_ap, sExt_ap, sSetIx_ap, sFrz_ap, eIxO_ap, eLenO_ap, eIxA_ap, eLenA_ap, vOf_ap, vCons_ap, vOwn_ap, vOwn2_ap, sTup_ap, iSeq_ap, sRaise_ap, sTry_ap, eExF_ap, tIfF_ap, eRev_ap, eRevA_ap, eRevF_ap, th_nx, th_rt, th_bk, th_ct, th_exc, bind_ok, bind_exc, go_ok, go_exc, opAdd_int, opSub_int, opMul_a, opMul_b, opDiv_pos, opDiv_wide, opMod_pos, opI_int, opEq_int, opNe_int, opEq_bool, opNe_bool, atI_0, atI_1, atI_2, atI_3, opIx_list, opIx_tuple, iRan1_ap, bLen_list, bLen_tuple, bInt_int, bAbs_int, bName, bNil, bCons, bTup, List.getElem?_cons_zero, List.getElem?_cons_succ, List.set_cons_zero, List.set_cons_succ, List.length_cons, List.length_nil, noTok, if_true, if_false, decide_true, decide_false, Bool.not_true, Bool.not_false, setAll, List.map_cons, List.map_nil, truD, Bool.true_eq_false, Bool.false_eq_true, Option.bind_some, true_and, and_true, List.replicate, startR, List.cons_append, List.nil_append, Nat.sub_self, reduceIte, ↓reduceIte, isNon, LIM_eq, and_self, List.map_append, List.length_map, Int.toNat_natCast, Nat.zero_le, Nat.reduceLeDiff, Int.reduceNeg, Int.reduceLE, Int.reduceLT, Int.zero_add, ran1_int, ran2_int, noEx, eq_self, dI, dP, dPs]
theorem m_rest_by_eq {p : Nat} {r : Nat → Int} {q : Int} (hp2 : p ≤ 1000) (hq : 0 < q) : m_rest_by [rowD p r, .int q] g = .ok (rowD p fun k => r k % q) g := by
  have hC : eOf C_rest_by_1 [.d (rowD p r), .d (.int q), .un] g = .ok (.list (wid (p - 1) fun k => r k % q)) g := by
    have := comp_mapA PyData.int (vs := [2]) (fi := iSeq (eV 0)) (b := bName 2) (fe := eBin opMod (eV 2) (eV 1)) (ρ := [.d (rowD p r), .d (.int q), .un]) (g := g) (xs := (List.range (p - 1)).map r) (fun x => .int (x % q)) (by
      rw [← wid_ints]
      rfl) (by rw [List.length_map, List.length_range]; omega) (fun x hx => by
      refine ⟨[.d (rowD p r), .d (.int q), .d (.int x)], rfl, ?_, rfl⟩
      have hmod : opMod (.int x) (.int q) g = .ok (.int (x % q)) g := opMod_pos hq
      generalize rowD p r = R1 at *
      simp (disch := omega) only [hmod, eV_ap, eC_ap, eBin_ap, eNeg_ap, tVal_ap, eIsN_ap, eNotN_ap, eChain_ap, tAndF_ap, tOrF_ap, tNotF_ap, tTru_ap, eAnd_ap, eOr_ap, eNot_ap, eIf_ap, aNil_ap, aCons_ap, eTup_ap, eLst_ap, oNone_ap, oSome_ap, eSl_ap, eCall_ap, iLst_ap, iTpl_ap, iRan2_apN, eOf_ap, oLst_ap, oCat_ap, oRep_ap, oSl_ap, oList_ap, oComp_ap, tYesF_ap, sNil_ap, sSeq_th, sBrk_ap, sCnt_ap, sExpr_ap, sRet_ap, sRetN_ap, sIf_ap, sSet_ap, sSetO_ap, sAsg_ap, sPar_ap, sPar3_ap, sAug_ap, sApp_ap, sExt_ap, sSetIx_ap, sFrz_ap, eIxO_ap, eLenO_ap, eIxA_ap, eLenA_ap, vOf_ap, vCons_ap, vOwn_ap, vOwn2_ap, sTup_ap, iSeq_ap, sRaise_ap, sTry_ap, eExF_ap, tIfF_ap, eRev_ap, eRevA_ap, eRevF_ap, th_nx, th_rt, th_bk, th_ct, th_exc, bind_ok, bind_exc, go_ok, go_exc, opAdd_int, opSub_int, opMul_a, opMul_b, opDiv_pos, opDiv_wide, opI_int, opEq_int, opNe_int, opEq_bool, opNe_bool, atI_0, atI_1, atI_2, atI_3, opIx_list, opIx_tuple, iRan1_ap, bLen_list, bLen_tuple, bInt_int, bAbs_int, bName, bNil, bCons, bTup, List.getElem?_cons_zero, List.getElem?_cons_succ, List.set_cons_zero, List.set_cons_succ, List.length_cons, List.length_nil, noTok, if_true, if_false, decide_true, decide_false, Bool.not_true, Bool.not_false, setAll, List.map_cons, List.map_nil, truD, Bool.true_eq_false, Bool.false_eq_true, Option.bind_some, true_and, and_true, List.replicate, startR, List.cons_append, List.nil_append, Nat.sub_self, reduceIte, ↓reduceIte, isNon, LIM_eq, and_self, List.map_append, List.length_map, Int.toNat_natCast, Nat.zero_le, Nat.reduceLeDiff, Int.reduceNeg, Int.reduceLE, Int.reduceLT, Int.zero_add, ran1_int, ran2_int, noEx, eq_self, dI, dP, dPs])
    show (C_rest_by_1 _ g).bind _ = _
    rw [show C_rest_by_1 = oComp [2] (iSeq (eV 0)) (bName 2) tYesF (eBin opMod (eV 2) (eV 1)) from rfl, this, bind_ok, List.map_map]
    rfl
  refine m_rt (np := 2) rfl ?_
  refine Eq.trans (b := sem_rest_by [.d (rowD p r), .d (.int q), .un] g) rfl ?_
  have hbt : bTuple [.list (wid (p - 1) fun k => r k % q)] g = .ok (rowD p fun k => r k % q) g := rfl
  generalize rowD p (fun k => r k % q) = R at *
  generalize (wid (p - 1) fun k => r k % q) = L2 at *
  generalize rowD p r = R1 at *
  simp (disch := omega) only [sem_rest_by, S_rest_by_1, hC, hbt, eV_ap, eC_ap, eBin_ap, eNeg_ap, tVal_ap, eIsN_ap, eNotN_ap, eChain_ap, tAndF_ap, tOrF_ap, tNotF_ap, tTru_ap, eAnd_ap, eOr_ap, eNot_ap, eIf_ap, aNil_ap, aCons_ap, eTup_ap, eLst_ap, oNone_ap, oSome_ap, eSl_ap, eCall_ap, iLst_ap, iTpl_ap, iRan2_apN, oLst_ap, oCat_ap, oRep_ap, oSl_ap, oList_ap, oComp_ap, tYesF_ap, sNil_ap, sSeq_th, sBrk_ap, sCnt_ap, sExpr_ap, sRet_ap, sRetN_ap, sIf_ap, sSet_ap, sSetO_ap, sAsg_ap, sPar_ap, sPar3_ap, sAug_ap, sApp_ap, sExt_ap, sSetIx_ap, sFrz_ap, eIxO_ap, eLenO_ap, eIxA_ap, eLenA_ap, vOf_ap, vCons_ap, vOwn_ap, vOwn2_ap, sTup_ap, iSeq_ap, sRaise_ap, sTry_ap, eExF_ap, tIfF_ap, eRev_ap, eRevA_ap, eRevF_ap, th_nx, th_rt, th_bk, th_ct, th_exc, bind_ok, bind_exc, go_ok, go_exc, opAdd_int, opSub_int, opMul_a, opMul_b, opDiv_pos, opDiv_wide, opMod_pos, opI_int, opEq_int, opNe_int, opEq_bool, opNe_bool, atI_0, atI_1, atI_2, atI_3, opIx_list, opIx_tuple, iRan1_ap, bLen_list, bLen_tuple, bInt_int, bAbs_int, bName, bNil, bCons, bTup, List.getElem?_cons_zero, List.getElem?_cons_succ, List.set_cons_zero, List.set_cons_succ, List.length_cons, List.length_nil, noTok, if_true, if_false, decide_true, decide_false, Bool.not_true, Bool.not_false, setAll, List.map_cons, List.map_nil, truD, Bool.true_eq_false, Bool.false_eq_true, Option.bind_some, true_and, and_true, List.replicate, startR, List.cons_append, List.nil_append, Nat.sub_self, reduceIte, ↓reduceIte, isNon, LIM_eq, and_self, List.map_append, List.length_map, Int.toNat_natCast, Nat.zero_le, Nat.reduceLeDiff, Int.reduceNeg, Int.reduceLE, Int.reduceLT, Int.zero_add, ran1_int, ran2_int, noEx, eq_self, dI, dP, dPs]
theorem cut1 {p : Nat} {r : Nat → Int} (hp : 2 ≤ p) : cutD (wid (p - 1) r) (some 1) none = ((List.range (p - 2)).map fun k => r (k + 1)).map PyData.int := by
  rw [cutD_from (by decide), show (1 : Int).toNat = 1 from rfl, show ((List.range (p - 2)).map fun k => r (k + 1)).map PyData.int = wid (p - 2) (fun k => r (k + 1)) from wid_ints.symm]
  refine wid_ext (by rw [List.length_drop, wid_len]; omega) fun i hi => ?_
  rw [List.getElem?_drop, wid_get (by omega), Nat.add_comm]
theorem sum_sm {f : Nat → Int} : ∀ n, ((List.range n).map f).sum = sm n f
  | 0 => rfl
  | n + 1 => by
    rw [List.range_succ, List.map_append, List.sum_append, sum_sm n]
    show sm n f + (f n + 0) = sm n f + f n
    omega
def trR (p : Nat) (r : Nat → Int) : Int := r 0 * ((p : Int) - 1) - sm (p - 2) fun k => r (k + 1)
theorem m_trace_eq {p n : Nat} {r : Nat → Int} (hp : 3 ≤ p) (hp2 : p ≤ 1000) (hr : bR n p r) (hn : n ≤ 40000) : m_trace [rowD p r] g = .ok (.int (trR p r)) g := by
  have lr := len_row (p := p) (r := r) (g := g)
  have hcut := cut1 (r := r) (show 2 ≤ p by omega)
  have hsum := bSumA_tup (l := (List.range (p - 2)).map fun k => r (k + 1)) (g := g)
  rw [sum_sm] at hsum
  obtain ⟨P, hP⟩ : ∃ P : Int, P = (p : Int) := ⟨_, rfl⟩
  have h0 : atI (wid (p - 1) r) 0 = some (.int (r 0)) := atI_wid (m := 0) rfl (by omega)
  have bP : bd 10 (P - 1) := by unfold bd; omega
  have hm : opMul (.int (r 0)) (.int (P - 1)) g = .ok (.int (r 0 * (P - 1))) g := opMul_bd (hr 0 (by omega)) bP (by omega)
  have ht : trR p r = r 0 * (P - 1) - sm (p - 2) fun k => r (k + 1) := by rw [hP]; rfl
  refine m_rt (np := 1) rfl ?_
  refine Eq.trans (b := sem_trace [.d (rowD p r), .un] g) rfl ?_
  refine seq_nx (ρ1 := [.d (rowD p r), .d (.int P)]) (g1 := g) (by
    have hP2 : ((p - 1 : Nat) : Int) + 1 = P := by omega
    rw [← hP2]
    generalize rowD p r = R1 at *
    generalize ((p - 1 : Nat) : Int) = Q at *
    simp (disch := omega) only [S_trace_1, lr, eV_ap, eC_ap, eBin_ap, eNeg_ap, tVal_ap, eIsN_ap, eNotN_ap, eChain_ap, tAndF_ap, tOrF_ap, tNotF_ap, tTru_ap, eAnd_ap, eOr_ap, eNot_ap, eIf_ap, aNil_ap, aCons_ap, eTup_ap, eLst_ap, oNone_ap, oSome_ap, eSl_ap, eCall_ap, iLst_ap, iTpl_ap, iRan2_apN, eOf_ap, oLst_ap, oCat_ap, oRep_ap, oSl_ap, oList_ap, oComp_ap, tYesF_ap, sNil_ap, sSeq_th, sBrk_ap, sCnt_ap, sExpr_ap, sRet_ap, sRetN_ap, sIf_ap, sSet_ap, sSetO_ap, sAsg_ap, sPar_ap, sPar3_ap, sAug_ap, sApp_ap, sExt_ap, sSetIx_ap, sFrz_ap, eIxO_ap, eLenO_ap, eIxA_ap, eLenA_ap, vOf_ap, vCons_ap, vOwn_ap, vOwn2_ap, sTup_ap, iSeq_ap, sRaise_ap, sTry_ap, eExF_ap, tIfF_ap, eRev_ap, eRevA_ap, eRevF_ap, th_nx, th_rt, th_bk, th_ct, th_exc, bind_ok, bind_exc, go_ok, go_exc, opAdd_int, opSub_int, opMul_a, opMul_b, opDiv_pos, opDiv_wide, opMod_pos, opI_int, opEq_int, opNe_int, opEq_bool, opNe_bool, atI_0, atI_1, atI_2, atI_3, opIx_list, opIx_tuple, iRan1_ap, bLen_list, bLen_tuple, bInt_int, bAbs_int, bName, bNil, bCons, bTup, List.getElem?_cons_zero, List.getElem?_cons_succ, List.set_cons_zero, List.set_cons_succ, List.length_cons, List.length_nil, noTok, if_true, if_false, decide_true, decide_false, Bool.not_true, Bool.not_false, setAll, List.map_cons, List.map_nil, truD, Bool.true_eq_false, Bool.false_eq_true, Option.bind_some, true_and, and_true, List.replicate, startR, List.cons_append, List.nil_append, Nat.sub_self, reduceIte, ↓reduceIte, isNon, LIM_eq, and_self, List.map_append, List.length_map, Int.toNat_natCast, Nat.zero_le, Nat.reduceLeDiff, Int.reduceNeg, Int.reduceLE, Int.reduceLT, Int.zero_add, ran1_int, ran2_int, noEx, eq_self, dI, dP, dPs]) ?_
  rw [ht]
  change S_trace_2 [.d (.tuple (wid (p - 1) r)), .d (.int P)] g = _
  generalize wid (p - 1) r = L at *
  generalize ((List.range (p - 2)).map fun k => r (k + 1)).map PyData.int = L2 at *
  generalize sm (p - 2) (fun k => r (k + 1)) = Z at *
  simp (disch := omega) only [S_trace_2, h0, hm, hcut, hsum, eV_ap, eC_ap, eBin_ap, eNeg_ap, tVal_ap, eIsN_ap, eNotN_ap, eChain_ap, tAndF_ap, tOrF_ap, tNotF_ap, tTru_ap, eAnd_ap, eOr_ap, eNot_ap, eIf_ap, aNil_ap, aCons_ap, eTup_ap, eLst_ap, oNone_ap, oSome_ap, eSl_ap, eCall_ap, iLst_ap, iTpl_ap, iRan2_apN, eOf_ap, oLst_ap, oCat_ap, oRep_ap, oSl_ap, oList_ap, oComp_ap, tYesF_ap, sNil_ap, sSeq_th, sBrk_ap, sCnt_ap, sExpr_ap, sRet_ap, sRetN_ap, sIf_ap, sSet_ap, sSetO_ap, sAsg_ap, sPar_ap, sPar3_ap, sAug_ap, sApp_ap, sExt_ap, sSetIx_ap, sFrz_ap, eIxO_ap, eLenO_ap, eIxA_ap, eLenA_ap, vOf_ap, vCons_ap, vOwn_ap, vOwn2_ap, sTup_ap, iSeq_ap, sRaise_ap, sTry_ap, eExF_ap, tIfF_ap, eRev_ap, eRevA_ap, eRevF_ap, th_nx, th_rt, th_bk, th_ct, th_exc, bind_ok, bind_exc, go_ok, go_exc, opAdd_int, opSub_int, opDiv_pos, opDiv_wide, opMod_pos, opI_int, opEq_int, opNe_int, opEq_bool, opNe_bool, atI_0, atI_1, atI_2, atI_3, opIx_list, opIx_tuple, iRan1_ap, bLen_list, bLen_tuple, bInt_int, bAbs_int, bName, bNil, bCons, bTup, List.getElem?_cons_zero, List.getElem?_cons_succ, List.set_cons_zero, List.set_cons_succ, List.length_cons, List.length_nil, noTok, if_true, if_false, decide_true, decide_false, Bool.not_true, Bool.not_false, setAll, List.map_cons, List.map_nil, truD, Bool.true_eq_false, Bool.false_eq_true, Option.bind_some, true_and, and_true, List.replicate, startR, List.cons_append, List.nil_append, Nat.sub_self, reduceIte, ↓reduceIte, isNon, LIM_eq, and_self, List.map_append, List.length_map, Int.toNat_natCast, Nat.zero_le, Nat.reduceLeDiff, Int.reduceNeg, Int.reduceLE, Int.reduceLT, Int.zero_add, ran1_int, ran2_int, noEx, eq_self, dI, dP, dPs]
theorem m_is_whole_row_eq {p : Nat} {r : Nat → Int} (hp : 2 ≤ p) (hp2 : p ≤ 1000) : m_is_whole_row [rowD p r] g = .ok (.bool (((List.range (p - 2)).map fun k => decide (r (k + 1) = 0)).all id)) g := by
  have hcut := cut1 (r := r) hp
  have hC : eOf C_is_whole_row_1 [.d (rowD p r), .un] g = .ok (.list (((List.range (p - 2)).map fun k => decide (r (k + 1) = 0)).map PyData.bool)) g := by
    have := comp_mapA PyData.int (vs := [1]) (fi := iSeq (eSl (eV 0) (oSome (eC (.int 1))) oNone)) (b := bName 1) (fe := eBin opEq (eV 1) (eC (.int 0))) (ρ := [.d (rowD p r), .un]) (g := g) (xs := (List.range (p - 2)).map fun k => r (k + 1)) (fun x => .bool (decide (x = 0))) (by
      rw [← hcut]
      change (iSeq (eSl (eV 0) (oSome (eC (.int 1))) oNone)) [.d (.tuple (wid (p - 1) r)), .un] g = _
      generalize wid (p - 1) r = L at *
      rfl) (by rw [List.length_map, List.length_range]; omega) (fun x hx => by
      refine ⟨[.d (rowD p r), .d (.int x)], rfl, ?_, rfl⟩
      generalize rowD p r = R1 at *
      simp (disch := omega) only [eV_ap, eC_ap, eBin_ap, eNeg_ap, tVal_ap, eIsN_ap, eNotN_ap, eChain_ap, tAndF_ap, tOrF_ap, tNotF_ap, tTru_ap, eAnd_ap, eOr_ap, eNot_ap, eIf_ap, aNil_ap, aCons_ap, eTup_ap, eLst_ap, oNone_ap, oSome_ap, eSl_ap, eCall_ap, iLst_ap, iTpl_ap, iRan2_apN, eOf_ap, oLst_ap, oCat_ap, oRep_ap, oSl_ap, oList_ap, oComp_ap, tYesF_ap, sNil_ap, sSeq_th, sBrk_ap, sCnt_ap, sExpr_ap, sRet_ap, sRetN_ap, sIf_ap, sSet_ap, sSetO_ap, sAsg_ap, sPar_ap, sPar3_ap, sAug_ap, sApp_ap, sExt_ap, sSetIx_ap, sFrz_ap, eIxO_ap, eLenO_ap, eIxA_ap, eLenA_ap, vOf_ap, vCons_ap, vOwn_ap, vOwn2_ap, sTup_ap, iSeq_ap, sRaise_ap, sTry_ap, eExF_ap, tIfF_ap, eRev_ap, eRevA_ap, eRevF_ap, th_nx, th_rt, th_bk, th_ct, th_exc, bind_ok, bind_exc, go_ok, go_exc, opAdd_int, opSub_int, opMul_a, opMul_b, opDiv_pos, opDiv_wide, opMod_pos, opI_int, opEq_int, opNe_int, opEq_bool, opNe_bool, atI_0, atI_1, atI_2, atI_3, opIx_list, opIx_tuple, iRan1_ap, bLen_list, bLen_tuple, bInt_int, bAbs_int, bName, bNil, bCons, bTup, List.getElem?_cons_zero, List.getElem?_cons_succ, List.set_cons_zero, List.set_cons_succ, List.length_cons, List.length_nil, noTok, if_true, if_false, decide_true, decide_false, Bool.not_true, Bool.not_false, setAll, List.map_cons, List.map_nil, truD, Bool.true_eq_false, Bool.false_eq_true, Option.bind_some, true_and, and_true, List.replicate, startR, List.cons_append, List.nil_append, Nat.sub_self, reduceIte, ↓reduceIte, isNon, LIM_eq, and_self, List.map_append, List.length_map, Int.toNat_natCast, Nat.zero_le, Nat.reduceLeDiff, Int.reduceNeg, Int.reduceLE, Int.reduceLT, Int.zero_add, ran1_int, ran2_int, noEx, eq_self, dI, dP, dPs])
    show (C_is_whole_row_1 _ g).bind _ = _
    rw [show C_is_whole_row_1 = oComp [1] (iSeq (eSl (eV 0) (oSome (eC (.int 1))) oNone)) (bName 1) tYesF (eBin opEq (eV 1) (eC (.int 0))) from rfl, this, bind_ok, List.map_map, List.map_map]
    rfl
  have hall : bAll [.list (((List.range (p - 2)).map fun k => decide (r (k + 1) = 0)).map PyData.bool)] g = .ok (.bool (((List.range (p - 2)).map fun k => decide (r (k + 1) = 0)).all id)) g := by
    show (match asBools (((List.range (p - 2)).map fun k => decide (r (k + 1) = 0)).map PyData.bool) with | some ns => Out.ok (PyData.bool (ns.all id)) g | none => .bad) = _
    rw [asBools_map]
  refine m_rt (np := 1) rfl ?_
  refine Eq.trans (b := sem_is_whole_row [.d (rowD p r), .un] g) rfl ?_
  generalize ((List.range (p - 2)).map fun k => decide (r (k + 1) = 0)).all id = B at *
  generalize ((List.range (p - 2)).map fun k => decide (r (k + 1) = 0)).map PyData.bool = L at *
  generalize rowD p r = R1 at *
  simp (disch := omega) only [sem_is_whole_row, S_is_whole_row_1, hC, hall, eV_ap, eC_ap, eBin_ap, eNeg_ap, tVal_ap, eIsN_ap, eNotN_ap, eChain_ap, tAndF_ap, tOrF_ap, tNotF_ap, tTru_ap, eAnd_ap, eOr_ap, eNot_ap, eIf_ap, aNil_ap, aCons_ap, eTup_ap, eLst_ap, oNone_ap, oSome_ap, eSl_ap, eCall_ap, iLst_ap, iTpl_ap, iRan2_apN, oLst_ap, oCat_ap, oRep_ap, oSl_ap, oList_ap, oComp_ap, tYesF_ap, sNil_ap, sSeq_th, sBrk_ap, sCnt_ap, sExpr_ap, sRet_ap, sRetN_ap, sIf_ap, sSet_ap, sSetO_ap, sAsg_ap, sPar_ap, sPar3_ap, sAug_ap, sApp_ap, sExt_ap, sSetIx_ap, sFrz_ap, eIxO_ap, eLenO_ap, eIxA_ap, eLenA_ap, vOf_ap, vCons_ap, vOwn_ap, vOwn2_ap, sTup_ap, iSeq_ap, sRaise_ap, sTry_ap, eExF_ap, tIfF_ap, eRev_ap, eRevA_ap, eRevF_ap, th_nx, th_rt, th_bk, th_ct, th_exc, bind_ok, bind_exc, go_ok, go_exc, opAdd_int, opSub_int, opMul_a, opMul_b, opDiv_pos, opDiv_wide, opMod_pos, opI_int, opEq_int, opNe_int, opEq_bool, opNe_bool, atI_0, atI_1, atI_2, atI_3, opIx_list, opIx_tuple, iRan1_ap, bLen_list, bLen_tuple, bInt_int, bAbs_int, bName, bNil, bCons, bTup, List.getElem?_cons_zero, List.getElem?_cons_succ, List.set_cons_zero, List.set_cons_succ, List.length_cons, List.length_nil, noTok, if_true, if_false, decide_true, decide_false, Bool.not_true, Bool.not_false, setAll, List.map_cons, List.map_nil, truD, Bool.true_eq_false, Bool.false_eq_true, Option.bind_some, true_and, and_true, List.replicate, startR, List.cons_append, List.nil_append, Nat.sub_self, reduceIte, ↓reduceIte, isNon, LIM_eq, and_self, List.map_append, List.length_map, Int.toNat_natCast, Nat.zero_le, Nat.reduceLeDiff, Int.reduceNeg, Int.reduceLE, Int.reduceLT, Int.zero_add, ran1_int, ran2_int, noEx, eq_self, dI, dP, dPs]
end
end K19
namespace K19
open PySem
open PySem.Spec
open PyProof.Rows
open L2
open DL
theorem rt_congr {p a b k : Nat} (h : a % p = b % p) : rt p a k = rt p b k := by
  unfold rt
  rw [h]
def comb (p n : Nat) (c : Nat → Int) (h : Nat → Nat) : Nat → Int := fun k => sm n fun i => c i * rt p (h i) k
theorem E_comb {p n : Nat} {c : Nat → Int} {h : Nat → Nat} {g : Nat → Int} (hp : 2 ≤ p) (hg : Per p g) : E p (comb p n c h) g = sm n fun i => c i * g (h i) := by
  have e1 : E p (comb p n c h) g = sm (p - 1) fun m => sm n fun i => c i * (rt p (h i) m * g m) := by
    refine sm_congr fun m _ => ?_
    show (sm n fun i => c i * rt p (h i) m) * g m = _
    rw [← sm_mulr]
    exact sm_congr fun i _ => Int.mul_assoc _ _ _
  rw [e1, sm_swap]
  refine sm_congr fun i _ => ?_
  rw [sm_mul]
  congr 1
  exact E_rt hp hg (h i)
theorem per_rt2 {p c k : Nat} (hp : 2 ≤ p) (hk : k < p) : Per p (fun j => rt p (c + j) k) := by
  have := per_rt1 (c := c) hp hk
  have e : (fun i => rt p (i + c) k) = fun i => rt p (c + i) k := by
    funext i
    rw [Nat.add_comm]
  rw [e] at this
  exact this
theorem mul_comb {p n m k : Nat} {c d : Nat → Int} {h l : Nat → Nat} (hp : 2 ≤ p) (hk : k < p) : mulR p (comb p n c h) (comb p m d l) k = sm n fun i => sm m fun j => c i * d j * rt p (h i + l j) k := by
  rw [mulR_E, E_comb hp (per_sum hp hk)]
  refine sm_congr fun i _ => ?_
  rw [show (sm (p - 1) fun j => comb p m d l j * rt p (h i + j) k) = E p (comb p m d l) (fun j => rt p (h i + j) k) from rfl, E_comb hp (per_rt2 hp hk), ← sm_mul]
  exact sm_congr fun j _ => (Int.mul_assoc _ _ _).symm
theorem mul_comb_rt {p n m k : Nat} {c : Nat → Int} {h : Nat → Nat} (hp : 2 ≤ p) (hk : k < p) : mulR p (comb p n c h) (rt p m) k = sm n fun i => c i * rt p (h i + m) k := by
  rw [mulR_E, E_comb hp (per_sum hp hk)]
  refine sm_congr fun i _ => ?_
  rw [show (sm (p - 1) fun j => rt p m j * rt p (h i + j) k) = E p (rt p m) (fun j => rt p (h i + j) k) from rfl, E_rt hp (per_rt2 hp hk)]
theorem mul_rt_rt {p m n k : Nat} (hp : 2 ≤ p) (hk : k < p) : mulR p (rt p m) (rt p n) k = rt p (m + n) k := by
  rw [mulR_E, E_rt hp (per_sum hp hk)]
  rw [show (sm (p - 1) fun j => rt p n j * rt p (m + j) k) = E p (rt p n) (fun j => rt p (m + j) k) from rfl, E_rt hp (per_rt2 hp hk)]
theorem sm_first {f : Nat → Int} : ∀ n, sm (n + 1) f = f 0 + sm n fun i => f (i + 1)
  | 0 => by
    show (0 : Int) + f 0 = f 0 + 0
    omega
  | n + 1 => by
    show sm (n + 1) f + f (n + 1) = f 0 + (sm n (fun i => f (i + 1)) + f (n + 1))
    rw [sm_first n]
    omega
theorem sm_const {x : Int} : ∀ n : Nat, sm n (fun _ => x) = n * x
  | 0 => (Int.zero_mul x).symm
  | n + 1 => by
    show sm n (fun _ => x) + x = _
    rw [sm_const n, Int.natCast_succ, Int.add_mul, Int.one_mul]
theorem sumb0 {p c k : Nat} (hc : c % p = 0) : (sm (p - 1) fun b => rt p ((b + 1) * c) k) = ((p - 1 : Nat) : Int) * one p k := by
  rw [← sm_const]
  refine sm_congr fun b _ => rt_congr ?_
  rw [Nat.mul_mod, hc, Nat.mul_zero]
theorem sumb1 {p c k : Nat} (hp : 2 ≤ p) (hk : k < p) (hc : Inv p (c % p)) : (sm (p - 1) fun b => rt p ((b + 1) * c) k) = - one p k := by
  have h := (per_rt (c := 0) hp hc hk).sum
  have e := sm_first (f := fun i => rt p (i * (c % p) + 0) k) (p - 1)
  rw [show p - 1 + 1 = p by omega, h] at e
  have e2 : (sm (p - 1) fun b => rt p ((b + 1) * c) k) = sm (p - 1) fun i => rt p ((i + 1) * (c % p) + 0) k := sm_congr fun b _ => rt_congr (by
    show (b + 1) * c % p = (b + 1) * (c % p) % p
    rw [Nat.mul_mod (b + 1) (c % p), Nat.mod_mod, ← Nat.mul_mod])
  have e3 : rt p (0 * (c % p) + 0) k = one p k := rt_congr (by rw [Nat.zero_mul])
  rw [e2]
  have e : (0 : Int) = rt p (0 * (c % p) + 0) k + sm (p - 1) fun i => rt p ((i + 1) * (c % p) + 0) k := e
  omega
theorem whR_mul {p k : Nat} {x : Int} (hp : 2 ≤ p) (hk : k < p - 1) : whR x k = x * one p k := by
  rw [← whR_one hp hk]
  unfold whR
  split
  · rw [Int.mul_one]
  · rw [Int.mul_zero]
def Pr (p : Nat) : Prop := ∀ i, 1 ≤ i → i < p → Inv p i
theorem trace_all {p k : Nat} {r : Nat → Int} (hp : 3 ≤ p) (hP : Pr p) (hk : k < p - 1) : (sm (p - 1) fun b => movR p r (b + 1) k) = whR (trR p r) k := by
  have e1 : (sm (p - 1) fun b => movR p r (b + 1) k) = sm (p - 1) fun i => r i * sm (p - 1) fun b => rt p ((b + 1) * i) k := by
    rw [show (sm (p - 1) fun b => movR p r (b + 1) k) = sm (p - 1) fun b => sm (p - 1) fun i => r i * rt p (i * (b + 1)) k from rfl, sm_swap]
    refine sm_congr fun i _ => ?_
    rw [← sm_mul]
    exact sm_congr fun b _ => by rw [Nat.mul_comm]
  rw [e1, whR_mul (by omega) hk]
  have e2 := sm_first (f := fun i => r i * sm (p - 1) fun b => rt p ((b + 1) * i) k) (p - 2)
  rw [show p - 2 + 1 = p - 1 by omega] at e2
  rw [e2]
  have e3 : (sm (p - 1) fun b => rt p ((b + 1) * 0) k) = ((p - 1 : Nat) : Int) * one p k := sumb0 (Nat.zero_mod p)
  have e4 : (sm (p - 2) fun i => r (i + 1) * sm (p - 1) fun b => rt p ((b + 1) * (i + 1)) k) = (sm (p - 2) fun i => r (i + 1)) * (- one p k) := by
    rw [← sm_mulr]
    refine sm_congr fun i hi => ?_
    rw [sumb1 (by omega) (by omega)]
    rw [Nat.mod_eq_of_lt (by omega)]
    exact hP _ (by omega) (by omega)
  show r 0 * (sm (p - 1) fun b => rt p ((b + 1) * 0) k) + _ = _
  rw [e3, e4]
  unfold trR
  rw [show ((p - 1 : Nat) : Int) = (p : Int) - 1 by omega]
  grind
def Nn (p : Nat) : Nat → Nat → Int
  | 0 => fun w => if w = 0 then 1 else 0
  | t + 1 => fun w => sm p fun u => sm p fun x => Nn p t u * ind ((u + x * x) % p = w)
theorem push {p : Nat} {N F : Nat → Int} {m : Nat → Nat → Nat} (hp : 2 ≤ p) : (sm p fun w => (sm p fun u => sm p fun x => N u * ind (m u x % p = w)) * F w) = sm p fun u => sm p fun x => N u * F (m u x % p) := by
  have e1 : (sm p fun w => (sm p fun u => sm p fun x => N u * ind (m u x % p = w)) * F w) = sm p fun w => sm p fun u => sm p fun x => N u * (ind (m u x % p = w) * F w) := by
    refine sm_congr fun w _ => ?_
    rw [← sm_mulr]
    refine sm_congr fun u _ => ?_
    rw [← sm_mulr]
    exact sm_congr fun x _ => Int.mul_assoc _ _ _
  rw [e1, sm_swap]
  refine sm_congr fun u _ => ?_
  rw [sm_swap]
  refine sm_congr fun x _ => ?_
  rw [sm_mul]
  congr 1
  rw [← sm_one (g := F) (Nat.mod_lt (m u x) (show 0 < p by omega))]
  refine sm_congr fun w _ => ?_
  unfold ind
  by_cases e : w = m u x % p
  · rw [if_pos e, if_pos e.symm, Int.one_mul]
  · rw [if_neg e, if_neg (fun h => e h.symm), Int.zero_mul]
theorem Nn_sum {p : Nat} (hp : 2 ≤ p) : ∀ t, sm p (Nn p t) = (p : Int) ^ t
  | 0 => by
    rw [show sm p (Nn p 0) = sm p (fun i => if i = 0 then (1 : Int) else 0) from rfl, sm_one (g := fun _ => 1) (by omega)]
    rfl
  | t + 1 => by
    have h := push (N := Nn p t) (F := fun _ => 1) (m := fun u x => u + x * x) hp
    have e1 : sm p (Nn p (t + 1)) = sm p fun w => (sm p fun u => sm p fun x => Nn p t u * ind ((u + x * x) % p = w)) * 1 := sm_congr fun w _ => (Int.mul_one _).symm
    rw [e1, h]
    have e2 : (sm p fun u => sm p fun x => Nn p t u * 1) = sm p fun u => (p : Int) * Nn p t u := sm_congr fun u _ => by rw [Int.mul_one, sm_const]
    rw [e2, sm_mul, Nn_sum hp t, Int.pow_succ, Int.mul_comm]
def Sq (p b : Nat) : Nat → Int := comb p p (fun _ => 1) fun x => x * x * b
theorem pw_sq {p b : Nat} (hp : 2 ≤ p) : ∀ t, Eqr p (pwR p (Sq p b) t) (comb p p (Nn p t) fun u => u * b)
  | 0 => fun k hk => by
    show rt p 0 k = sm p fun i => (if i = 0 then (1 : Int) else 0) * rt p (i * b) k
    rw [show rt p 0 k = rt p (0 * b) k by rw [Nat.zero_mul], ← sm_one (g := fun i => rt p (i * b) k) (show 0 < p by omega)]
    refine sm_congr fun i _ => ?_
    by_cases e : i = 0
    · rw [if_pos e, if_pos e, Int.one_mul]
    · rw [if_neg e, if_neg e, Int.zero_mul]
  | t + 1 => fun k hk => by
    show mulR p (pwR p (Sq p b) t) (Sq p b) k = sm p fun w => (sm p fun u => sm p fun x => Nn p t u * ind ((u + x * x) % p = w)) * rt p (w * b) k
    rw [mulR_congr (pw_sq hp t) (fun _ _ => rfl)]
    have h := push (N := Nn p t) (F := fun w => rt p (w * b) k) (m := fun u x => u + x * x) hp
    rw [h]
    unfold Sq
    rw [mul_comb hp (by omega)]
    refine sm_congr fun u _ => sm_congr fun x _ => ?_
    rw [Int.mul_one]
    congr 1
    refine rt_congr ?_
    rw [Nat.mod_mul_mod, Nat.add_mul]
theorem sums_all {p k t v : Nat} {m : Nat → Nat} (hp : 3 ≤ p) (hP : Pr p) (hk : k < p - 1) (hv : v < p) (hm : ∀ b, b < p - 1 → (m b) % p = ((b + 1) * (p - v)) % p) : whR ((p : Int) ^ t) k + (sm (p - 1) fun b => mulR p (pwR p (Sq p (b + 1)) t) (rt p (m b)) k) = whR (p * Nn p t v) k := by
  have e1 : (sm (p - 1) fun b => mulR p (pwR p (Sq p (b + 1)) t) (rt p (m b)) k) = sm p fun u => Nn p t u * sm (p - 1) fun b => rt p ((b + 1) * (u + (p - v))) k := by
    have : (sm (p - 1) fun b => mulR p (pwR p (Sq p (b + 1)) t) (rt p (m b)) k) = sm (p - 1) fun b => sm p fun u => Nn p t u * rt p ((b + 1) * (u + (p - v))) k := by
      refine sm_congr fun b hb => ?_
      rw [mulR_congr (pw_sq (by omega) t) (fun _ _ => rfl), mul_comb_rt (by omega) (by omega)]
      refine sm_congr fun u _ => ?_
      congr 1
      refine rt_congr ?_
      rw [Nat.add_mod, hm b hb, ← Nat.add_mod, Nat.mul_comm u, ← Nat.mul_add]
    rw [this, sm_swap]
    refine sm_congr fun u _ => ?_
    rw [sm_mul]
  have e2 : (sm p fun u => Nn p t u * sm (p - 1) fun b => rt p ((b + 1) * (u + (p - v))) k) = (sm p fun u => if u = v then Nn p t u * ((p : Int) * one p k) else 0) - (sm p fun u => Nn p t u * one p k) := by
    rw [← sm_sub]
    refine sm_congr fun u hu => ?_
    by_cases e : u = v
    · rw [if_pos e, sumb0 (by rw [e, show v + (p - v) = p by omega, Nat.mod_self]), show ((p - 1 : Nat) : Int) = (p : Int) - 1 by omega]
      grind
    · rw [if_neg e, sumb1 (by omega) (by omega)]
      · grind
      · rcases (by omega : u < v ∨ v < u) with h | h
        · rw [Nat.mod_eq_of_lt (by omega)]
          exact hP _ (by omega) (by omega)
        · rw [show u + (p - v) = (u - v) + p by omega, Nat.add_mod_right, Nat.mod_eq_of_lt (by omega)]
          exact hP _ (by omega) (by omega)
  rw [e1, e2, sm_one (g := fun u => Nn p t u * ((p : Int) * one p k)) hv, sm_mulr, Nn_sum (by omega), whR_mul (by omega) hk, whR_mul (by omega) hk]
  grind
theorem Nn_nonneg {p : Nat} : ∀ t w, 0 ≤ Nn p t w
  | 0, w => by
    show 0 ≤ if w = 0 then (1 : Int) else 0
    split <;> decide
  | t + 1, w => by
    have : ∀ (n : Nat) (f : Nat → Int), (∀ i, 0 ≤ f i) → 0 ≤ sm n f := by
      intro n f h
      induction n with
      | zero => exact Int.le_refl 0
      | succ n ih =>
        show 0 ≤ sm n f + f n
        have := h n
        omega
    refine this _ _ fun u => this _ _ fun x => Int.mul_nonneg (Nn_nonneg t u) ?_
    unfold ind
    split <;> decide
end K19
namespace K19
open PySem
open PySem.Spec
open PyProof.Rows
open L2
open DL
def J (p j : Nat) : Int := if j % p = 0 then 0 else if (List.range p).any (fun x => x * x % p == j % p) then 1 else -1
def L7 : Nat → List Int
  | 3 => [1, 2]
  | 5 => [-1, 0, -2, -2]
  | 7 => [1, 2, 2, 0, 2, 0]
  | 11 => [1, 2, 0, 2, 2, 2, 0, 0, 0, 2]
  | 13 => [-1, 0, -2, 0, 0, -2, -2, -2, -2, 0, 0, -2]
  | 17 => [-1, 0, 0, -2, 0, -2, -2, -2, 0, 0, -2, -2, -2, 0, -2, 0]
  | 19 => [1, 2, 0, 0, 2, 2, 2, 2, 0, 2, 0, 2, 0, 0, 0, 0, 2, 2]
  | _ => []
def lit (p k : Nat) : Int := (L7 p).getD k 0
def gs (p a : Nat) : Nat → Int := comb p p (J p) fun j => j * a
def P7 : List Nat := [3, 5, 7, 11, 13, 17, 19]
def Q11 : List Nat := [3, 5, 7, 11, 13, 17, 19, 23, 29, 31, 37]
def star (p : Nat) : Int := if p % 4 = 1 then (p : Int) else -(p : Int)
def jacC (p : Nat) : Bool := (List.range (p - 1)).all fun i => okD (m_jacobi [.int ((i + 1 : Nat) : Int), .int (p : Int)] (0, [])) (.int (J p (i + 1)))
def ljacC (p : Nat) : Bool := (List.range (p - 1)).all fun i => okD (m__law_jacobi [.int ((i + 1 : Nat) : Int), .int (p : Int)] (0, [])) (.int (J p (i + 1)))
def ljq (p : Nat) : Bool := Q11.all fun q => decide (p = q) || (okD (m__law_jacobi [.int (q : Int), .int (p : Int)] (0, [])) (.int (J p q)) && okD (m__law_jacobi [.int (star p), .int (q : Int)] (0, [])) (.int (J p q)))
def chkC (p : Nat) : Bool := okD (m_check [.int (p : Int)] (0, [])) .none
def invC (p : Nat) : Bool := (List.range (p - 1)).all fun i => (List.range p).any fun c => (i + 1) * c % p == 1 % p
def c1 (p : Nat) : Bool := (List.range (p - 1)).all fun k => decide (gs p 1 k = lit p k)
def c2 (p : Nat) : Bool := (List.range (p - 1)).all fun k => decide (mulR p (lit p) (lit p) k = whR (star p) k)
def c3 (p : Nat) : Bool := (List.range (p - 1)).all fun k => decide (Sq p 1 k = lit p k)
def c4 (p : Nat) : Bool := (List.range (p - 1)).all fun b => (List.range (p - 1)).all fun k => decide (gs p (b + 1) k = J p (b + 1) * lit p k)
def c5 (p : Nat) : Bool := Q11.all fun q => decide (p = q) || (((List.range (p - 1)).all fun k => decide ((star p ^ ((q - 1) / 2) * lit p k) % (q : Int) = (J p q * lit p k) % (q : Int))) && ((decide (J p q = 1)) || (decide (J p q = -1) && (List.range (p - 1)).any fun k => decide (¬ (-1 * lit p k) % (q : Int) = lit p k % (q : Int)))))
theorem jac_ok : P7.all jacC = true := by decide +kernel
theorem ljac_ok : P7.all ljacC = true := by decide +kernel
theorem chk_ok : P7.all chkC = true := by decide +kernel
theorem ljq_ok : P7.all ljq = true := by decide +kernel
theorem inv_ok : P7.all invC = true := by decide +kernel
theorem c1_ok : P7.all c1 = true := by decide +kernel
theorem c2_ok : P7.all c2 = true := by decide +kernel
theorem c3_ok : P7.all c3 = true := by decide +kernel
theorem c4_ok : P7.all c4 = true := by decide +kernel
theorem c5_ok : P7.all c5 = true := by decide +kernel
theorem at7 {f : Nat → Bool} (h : P7.all f = true) {p : Nat} (hp : p ∈ P7) : f p = true := List.all_eq_true.mp h p hp
theorem atR {n k : Nat} {f : Nat → Bool} (h : (List.range n).all f = true) (hk : k < n) : f k = true := List.all_eq_true.mp h k (List.mem_range.mpr hk)
theorem p7_b : ∀ p ∈ P7, 3 ≤ p ∧ p ≤ 19 := by decide
theorem q11_b : ∀ q ∈ Q11, 3 ≤ q ∧ q ≤ 37 ∧ q % 2 = 1 := by decide
theorem p7_pr {p : Nat} (hp : p ∈ P7) : Pr p := fun i h1 h2 => by
  have h := atR (at7 inv_ok hp) (show i - 1 < p - 1 by omega)
  obtain ⟨c, _, hc⟩ := List.any_eq_true.mp h
  rw [show i - 1 + 1 = i by omega] at hc
  exact ⟨c, eq_of_beq hc⟩
theorem gs_lit {p : Nat} (hp : p ∈ P7) : Eqr p (gs p 1) (lit p) := fun k hk => of_decide_eq_true (atR (at7 c1_ok hp) hk)
theorem gs_sq {p : Nat} (hp : p ∈ P7) : Eqr p (mulR p (gs p 1) (gs p 1)) (whR (star p)) := fun k hk => by
  rw [mulR_congr (gs_lit hp) (gs_lit hp)]
  exact of_decide_eq_true (atR (at7 c2_ok hp) hk)
theorem sq_gs {p : Nat} (hp : p ∈ P7) : Eqr p (Sq p 1) (gs p 1) := fun k hk => by
  rw [gs_lit hp k hk]
  exact of_decide_eq_true (atR (at7 c3_ok hp) hk)
theorem gs_b {p b : Nat} (hp : p ∈ P7) (h1 : 1 ≤ b) (h2 : b < p) : Eqr p (gs p b) fun k => J p b * gs p 1 k := fun k hk => by
  have h := of_decide_eq_true (atR (atR (at7 c4_ok hp) (show b - 1 < p - 1 by omega)) hk)
  rw [show b - 1 + 1 = b by omega] at h
  show gs p b k = J p b * gs p 1 k
  rw [h, gs_lit hp k hk]
theorem mod_cast1 {a b p : Nat} : ((a : Nat) : Int) * ((b : Nat) : Int) % (p : Int) = ((a * b % p : Nat) : Int) := by
  rw [← Int.natCast_mul, mod_nat]
section
variable {g : G}
theorem m_check_p {p : Nat} (hp : p ∈ P7) {P : Int} (hP : P = (p : Int)) : m_check [.int P] g = .ok .none g := by
  subst hP
  exact okD_of gp_check (at7 chk_ok hp) g
theorem m_jacobi_p {p j : Nat} (hp : p ∈ P7) (h1 : 1 ≤ j) (h2 : j < p) {P I : Int} (hP : P = (p : Int)) (hI : I = (j : Int)) : m_jacobi [.int I, .int P] g = .ok (.int (J p j)) g := by
  subst hP hI
  have h := atR (at7 jac_ok hp) (show j - 1 < p - 1 by omega)
  rw [show j - 1 + 1 = j by omega] at h
  exact okD_of gp_jacobi h g
theorem m_ljacobi_p {p j : Nat} (hp : p ∈ P7) (h1 : 1 ≤ j) (h2 : j < p) {P I : Int} (hP : P = (p : Int)) (hI : I = (j : Int)) : m__law_jacobi [.int I, .int P] g = .ok (.int (J p j)) g := by
  subst hP hI
  have h := atR (at7 ljac_ok hp) (show j - 1 < p - 1 by omega)
  rw [show j - 1 + 1 = j by omega] at h
  exact okD_of gp__law_jacobi h g
theorem m_ljacobi_q {p q : Nat} (hp : p ∈ P7) (hq : q ∈ Q11) (h : p ≠ q) {P Q S : Int} (hP : P = (p : Int)) (hQ : Q = (q : Int)) (hS : S = star p) : m__law_jacobi [.int Q, .int P] g = .ok (.int (J p q)) g ∧ m__law_jacobi [.int S, .int Q] g = .ok (.int (J p q)) g := by
  subst hP hQ hS
  have h2 := List.all_eq_true.mp (at7 ljq_ok hp) q hq
  rw [Bool.or_eq_true, Bool.and_eq_true] at h2
  rcases h2 with h2 | ⟨h2, h3⟩
  · exact absurd (of_decide_eq_true h2) h
  · exact ⟨okD_of gp__law_jacobi h2 g, okD_of gp__law_jacobi h3 g⟩
def accS (p A i : Nat) : Nat → Int := fun k => sm i fun j => J p (j + 1) * ind ((j + 1) * A % p = k)
theorem acc_step {i m : Nat} {v : Int} {f : Nat → Nat → Int} {W : Nat → Int} (hf : ∀ k, W k + v * ind (m = k) = f i k) : (fun k => if k = m then W m + v else W k) = f i := by
  funext k
  rw [← hf k]
  by_cases e : k = m
  · rw [if_pos e, ← e]
    unfold ind
    rw [if_pos (rfl : k = k), Int.mul_one]
  · rw [if_neg e]
    rw [show ind (m = k) = 0 from if_neg fun h => e h.symm]
    omega
theorem accS_gs {p A k : Nat} (hp : 1 ≤ p) : accS p A (p - 1) k - accS p A (p - 1) (p - 1) = gs p A k := by
  unfold accS gs comb
  rw [← sm_sub]
  have e := sm_first (f := fun i => J p i * rt p (i * A) k) (p - 1)
  rw [show p - 1 + 1 = p by omega] at e
  rw [e]
  have z : J p 0 = 0 := by
    unfold J
    rw [if_pos (Nat.zero_mod p)]
  show _ = J p 0 * rt p (0 * A) k + _
  rw [z, Int.zero_mul, Int.zero_add]
  refine sm_congr fun a _ => ?_
  unfold rt
  rw [Int.mul_sub]
theorem m_sum_of_signs_eq {p A : Nat} {P a : Int} (hp : p ∈ P7) (hP : P = (p : Int)) (ha : a % P = (A : Int)) : m_sum_of_signs [.int P, .int a] g = .ok (rowD p (gs p A)) g := by
  obtain ⟨hp3, hp19⟩ := p7_b p hp
  obtain ⟨ρ1, g1, ⟨rfl, y3, rfl⟩, hw⟩ := sFor_run (fi := iRan2 (aCons (eC (.int 1)) (aCons (eV 0) aNil))) (b := bName 3) (f := B_sum_of_signs_3) (items := upTo 1 (p - 1)) (ρ := [.d (.int P), .d (.int a), .own (wid p (accS p A 0)), .un]) (g := g) (g1 := g)
    (fun i ρ g' => g' = g ∧ ∃ y3 : SV, ρ = [.d (.int P), .d (.int a), .own (wid p (accS p A i)), y3]) (by
      have e := ran2_int (i := 1) (j := P) (g := g) (by omega) (by omega) (by omega) (by omega)
      rw [show (P - 1).toNat = p - 1 by omega] at e
      generalize wid p (accS p A 0) = L at *
      simp (disch := omega) only [e, eV_ap, eC_ap, eBin_ap, eNeg_ap, tVal_ap, eIsN_ap, eNotN_ap, eChain_ap, tAndF_ap, tOrF_ap, tNotF_ap, tTru_ap, eAnd_ap, eOr_ap, eNot_ap, eIf_ap, aNil_ap, aCons_ap, eTup_ap, eLst_ap, oNone_ap, oSome_ap, eSl_ap, eCall_ap, iLst_ap, iTpl_ap, iRan2_apN, eOf_ap, oLst_ap, oCat_ap, oRep_ap, oSl_ap, oList_ap, oComp_ap, tYesF_ap, sNil_ap, sSeq_th, sBrk_ap, sCnt_ap, sExpr_ap, sRet_ap, sRetN_ap, sIf_ap, sSet_ap, sSetO_ap, sAsg_ap, sPar_ap, sPar3_ap, sAug_ap, sApp_ap, sExt_ap, sSetIx_ap, sFrz_ap, eIxO_ap, eLenO_ap, eIxA_ap, eLenA_ap, vOf_ap, vCons_ap, vOwn_ap, vOwn2_ap, sTup_ap, iSeq_ap, sRaise_ap, sTry_ap, eExF_ap, tIfF_ap, eRev_ap, eRevA_ap, eRevF_ap, th_nx, th_rt, th_bk, th_ct, th_exc, bind_ok, bind_exc, go_ok, go_exc, opAdd_int, opSub_int, opMul_a, opMul_b, opDiv_pos, opDiv_wide, opMod_pos, opI_int, opEq_int, opNe_int, opEq_bool, opNe_bool, atI_0, atI_1, atI_2, atI_3, opIx_list, opIx_tuple, iRan1_ap, bLen_list, bLen_tuple, bInt_int, bAbs_int, bName, bNil, bCons, bTup, List.getElem?_cons_zero, List.getElem?_cons_succ, List.set_cons_zero, List.set_cons_succ, List.length_cons, List.length_nil, noTok, if_true, if_false, decide_true, decide_false, Bool.not_true, Bool.not_false, setAll, List.map_cons, List.map_nil, truD, Bool.true_eq_false, Bool.false_eq_true, Option.bind_some, true_and, and_true, List.replicate, startR, List.cons_append, List.nil_append, Nat.sub_self, reduceIte, ↓reduceIte, isNon, LIM_eq, and_self, List.map_append, List.length_map, Int.toNat_natCast, Nat.zero_le, Nat.reduceLeDiff, Int.reduceNeg, Int.reduceLE, Int.reduceLT, Int.zero_add, ran1_int, noEx, eq_self, dI, dP, dPs]) ⟨rfl, .un, rfl⟩ (by
      rintro i hi ρ g' ⟨rfl, y3, rfl⟩
      rw [upTo_len] at hi
      obtain ⟨I, hI⟩ : ∃ I : Int, I = 1 + (i : Int) := ⟨_, rfl⟩
      refine ⟨[.d (.int P), .d (.int a), .own (wid p (accS p A i)), .d (.int I)], [.d (.int P), .d (.int a), .own (wid p (accS p A (i + 1))), .d (.int I)], g', by
        rw [upTo_get (by rw [upTo_len]; exact hi), ← hI]
        rfl, .inl ?_, rfl, _, rfl⟩
      have hz : I * a % P = (((i + 1) * A % p : Nat) : Int) := by
        rw [Int.mul_emod, ha, show I % P = ((i + 1 : Nat) : Int) by rw [Int.emod_eq_of_lt (by omega) (by omega)]; omega, hP, mod_cast1]
      have hml : (i + 1) * A % p < p := Nat.mod_lt _ (by omega)
      have hmod : opMod (.int (I * a)) (.int P) g' = .ok (.int (I * a % P)) g' := opMod_pos (by omega)
      have hmul : opMul (.int I) (.int a) g' = .ok (.int (I * a)) g' := opMul_a (by omega) (by omega)
      have hj := m_jacobi_p (g := g') (j := i + 1) hp (by omega) (by omega) hP (show I = ((i + 1 : Nat) : Int) by omega)
      show sAugIx 2 (fun i j => i + j) (eBin opMod (eBin opMul (eV 3) (eV 1)) (eV 0)) (eCall m_jacobi (aCons (eV 3) (aCons (eV 0) aNil))) [.d (.int P), .d (.int a), .own (wid p (accS p A i)), .d (.int I)] g' = _
      refine Eq.trans (aug_row (p := p) (W := accS p A i) (m := (i + 1) * A % p) (v := J p (i + 1)) (z := I * a % P) rfl ?_ hz hml ?_) ?_
      · generalize wid p (accS p A i) = L at *
        simp (disch := omega) only [hmul, hmod, eV_ap, eC_ap, eBin_ap, eNeg_ap, tVal_ap, eIsN_ap, eNotN_ap, eChain_ap, tAndF_ap, tOrF_ap, tNotF_ap, tTru_ap, eAnd_ap, eOr_ap, eNot_ap, eIf_ap, aNil_ap, aCons_ap, eTup_ap, eLst_ap, oNone_ap, oSome_ap, eSl_ap, eCall_ap, iLst_ap, iTpl_ap, iRan2_apN, eOf_ap, oLst_ap, oCat_ap, oRep_ap, oSl_ap, oList_ap, oComp_ap, tYesF_ap, sNil_ap, sSeq_th, sBrk_ap, sCnt_ap, sExpr_ap, sRet_ap, sRetN_ap, sIf_ap, sSet_ap, sSetO_ap, sAsg_ap, sPar_ap, sPar3_ap, sAug_ap, sApp_ap, sExt_ap, sSetIx_ap, sFrz_ap, eIxO_ap, eLenO_ap, eIxA_ap, eLenA_ap, vOf_ap, vCons_ap, vOwn_ap, vOwn2_ap, sTup_ap, iSeq_ap, sRaise_ap, sTry_ap, eExF_ap, tIfF_ap, eRev_ap, eRevA_ap, eRevF_ap, th_nx, th_rt, th_bk, th_ct, th_exc, bind_ok, bind_exc, go_ok, go_exc, opAdd_int, opSub_int, opDiv_pos, opDiv_wide, opI_int, opEq_int, opNe_int, opEq_bool, opNe_bool, atI_0, atI_1, atI_2, atI_3, opIx_list, opIx_tuple, iRan1_ap, bLen_list, bLen_tuple, bInt_int, bAbs_int, bName, bNil, bCons, bTup, List.getElem?_cons_zero, List.getElem?_cons_succ, List.set_cons_zero, List.set_cons_succ, List.length_cons, List.length_nil, noTok, if_true, if_false, decide_true, decide_false, Bool.not_true, Bool.not_false, setAll, List.map_cons, List.map_nil, truD, Bool.true_eq_false, Bool.false_eq_true, Option.bind_some, true_and, and_true, List.replicate, startR, List.cons_append, List.nil_append, Nat.sub_self, reduceIte, ↓reduceIte, isNon, LIM_eq, and_self, List.map_append, List.length_map, Int.toNat_natCast, Nat.zero_le, Nat.reduceLeDiff, Int.reduceNeg, Int.reduceLE, Int.reduceLT, Int.zero_add, ran1_int, ran2_int, noEx, eq_self, dI, dP, dPs]
      · generalize wid p (accS p A i) = L at *
        simp (disch := omega) only [hj, eV_ap, eC_ap, eBin_ap, eNeg_ap, tVal_ap, eIsN_ap, eNotN_ap, eChain_ap, tAndF_ap, tOrF_ap, tNotF_ap, tTru_ap, eAnd_ap, eOr_ap, eNot_ap, eIf_ap, aNil_ap, aCons_ap, eTup_ap, eLst_ap, oNone_ap, oSome_ap, eSl_ap, eCall_ap, iLst_ap, iTpl_ap, iRan2_apN, eOf_ap, oLst_ap, oCat_ap, oRep_ap, oSl_ap, oList_ap, oComp_ap, tYesF_ap, sNil_ap, sSeq_th, sBrk_ap, sCnt_ap, sExpr_ap, sRet_ap, sRetN_ap, sIf_ap, sSet_ap, sSetO_ap, sAsg_ap, sPar_ap, sPar3_ap, sAug_ap, sApp_ap, sExt_ap, sSetIx_ap, sFrz_ap, eIxO_ap, eLenO_ap, eIxA_ap, eLenA_ap, vOf_ap, vCons_ap, vOwn_ap, vOwn2_ap, sTup_ap, iSeq_ap, sRaise_ap, sTry_ap, eExF_ap, tIfF_ap, eRev_ap, eRevA_ap, eRevF_ap, th_nx, th_rt, th_bk, th_ct, th_exc, bind_ok, bind_exc, go_ok, go_exc, opAdd_int, opSub_int, opMul_a, opMul_b, opDiv_pos, opDiv_wide, opMod_pos, opI_int, opEq_int, opNe_int, opEq_bool, opNe_bool, atI_0, atI_1, atI_2, atI_3, opIx_list, opIx_tuple, iRan1_ap, bLen_list, bLen_tuple, bInt_int, bAbs_int, bName, bNil, bCons, bTup, List.getElem?_cons_zero, List.getElem?_cons_succ, List.set_cons_zero, List.set_cons_succ, List.length_cons, List.length_nil, noTok, if_true, if_false, decide_true, decide_false, Bool.not_true, Bool.not_false, setAll, List.map_cons, List.map_nil, truD, Bool.true_eq_false, Bool.false_eq_true, Option.bind_some, true_and, and_true, List.replicate, startR, List.cons_append, List.nil_append, Nat.sub_self, reduceIte, ↓reduceIte, isNon, LIM_eq, and_self, List.map_append, List.length_map, Int.toNat_natCast, Nat.zero_le, Nat.reduceLeDiff, Int.reduceNeg, Int.reduceLE, Int.reduceLT, Int.zero_add, ran1_int, ran2_int, noEx, eq_self, dI, dP, dPs]
      · show SO.nx [.d (.int P), .d (.int a), .own (wid p fun k => if k = (i + 1) * A % p then accS p A i ((i + 1) * A % p) + J p (i + 1) else accS p A i k), .d (.int I)] g' = _
        rw [acc_step (W := accS p A i) (v := J p (i + 1)) (m := (i + 1) * A % p) (f := accS p A) (i := i + 1) fun k => rfl])
  rw [upTo_len] at hw
  refine m_rt (np := 2) rfl ?_
  refine Eq.trans (b := sem_sum_of_signs [.d (.int P), .d (.int a), .un, .un] g1) rfl ?_
  have hck := m_check_p (g := g1) hp hP
  refine seq_nx (ρ1 := [.d (.int P), .d (.int a), .un, .un]) (g1 := g1) (by simp (disch := omega) only [S_sum_of_signs_1, hck, eV_ap, eC_ap, eBin_ap, eNeg_ap, tVal_ap, eIsN_ap, eNotN_ap, eChain_ap, tAndF_ap, tOrF_ap, tNotF_ap, tTru_ap, eAnd_ap, eOr_ap, eNot_ap, eIf_ap, aNil_ap, aCons_ap, eTup_ap, eLst_ap, oNone_ap, oSome_ap, eSl_ap, eCall_ap, iLst_ap, iTpl_ap, iRan2_apN, eOf_ap, oLst_ap, oCat_ap, oRep_ap, oSl_ap, oList_ap, oComp_ap, tYesF_ap, sNil_ap, sSeq_th, sBrk_ap, sCnt_ap, sExpr_ap, sRet_ap, sRetN_ap, sIf_ap, sSet_ap, sSetO_ap, sAsg_ap, sPar_ap, sPar3_ap, sAug_ap, sApp_ap, sExt_ap, sSetIx_ap, sFrz_ap, eIxO_ap, eLenO_ap, eIxA_ap, eLenA_ap, vOf_ap, vCons_ap, vOwn_ap, vOwn2_ap, sTup_ap, iSeq_ap, sRaise_ap, sTry_ap, eExF_ap, tIfF_ap, eRev_ap, eRevA_ap, eRevF_ap, th_nx, th_rt, th_bk, th_ct, th_exc, bind_ok, bind_exc, go_ok, go_exc, opAdd_int, opSub_int, opMul_a, opMul_b, opDiv_pos, opDiv_wide, opMod_pos, opI_int, opEq_int, opNe_int, opEq_bool, opNe_bool, atI_0, atI_1, atI_2, atI_3, opIx_list, opIx_tuple, iRan1_ap, bLen_list, bLen_tuple, bInt_int, bAbs_int, bName, bNil, bCons, bTup, List.getElem?_cons_zero, List.getElem?_cons_succ, List.set_cons_zero, List.set_cons_succ, List.length_cons, List.length_nil, noTok, if_true, if_false, decide_true, decide_false, Bool.not_true, Bool.not_false, setAll, List.map_cons, List.map_nil, truD, Bool.true_eq_false, Bool.false_eq_true, Option.bind_some, true_and, and_true, List.replicate, startR, List.cons_append, List.nil_append, Nat.sub_self, reduceIte, ↓reduceIte, isNon, LIM_eq, and_self, List.map_append, List.length_map, Int.toNat_natCast, Nat.zero_le, Nat.reduceLeDiff, Int.reduceNeg, Int.reduceLE, Int.reduceLT, Int.zero_add, ran1_int, ran2_int, noEx, eq_self, dI, dP, dPs]) ?_
  refine seq_nx (ρ1 := [.d (.int P), .d (.int a), .own (wid p (accS p A 0)), .un]) (g1 := g1) (by
    show ((oRep (eLst (aCons (eC (.int 0)) aNil)) (eV 0)) _ g1).go _ _ = _
    rw [rep_zero (p := p) hP (by omega) rfl, go_ok]
    rfl) ?_
  refine seq_nx (show S_sum_of_signs_3 _ _ = _ from hw) ?_
  refine frz_own rfl ?_
  have hst := m_settled_eq (g := g1) (p := p) (W := accS p A (p - 1)) (by omega) (by omega)
  have hco : rowD p (fun k => accS p A (p - 1) k - accS p A (p - 1) (p - 1)) = rowD p (gs p A) := rowD_congr fun k _ => accS_gs (by omega)
  rw [hco] at hst
  change S_sum_of_signs_5 [.d (.int P), .d (.int a), .d (.list (wid p (accS p A (p - 1)))), y3] g1 = _
  generalize wid p (accS p A (p - 1)) = L at *
  generalize rowD p (gs p A) = R3 at *
  simp (disch := omega) only [S_sum_of_signs_5, hst, eV_ap, eC_ap, eBin_ap, eNeg_ap, tVal_ap, eIsN_ap, eNotN_ap, eChain_ap, tAndF_ap, tOrF_ap, tNotF_ap, tTru_ap, eAnd_ap, eOr_ap, eNot_ap, eIf_ap, aNil_ap, aCons_ap, eTup_ap, eLst_ap, oNone_ap, oSome_ap, eSl_ap, eCall_ap, iLst_ap, iTpl_ap, iRan2_apN, eOf_ap, oLst_ap, oCat_ap, oRep_ap, oSl_ap, oList_ap, oComp_ap, tYesF_ap, sNil_ap, sSeq_th, sBrk_ap, sCnt_ap, sExpr_ap, sRet_ap, sRetN_ap, sIf_ap, sSet_ap, sSetO_ap, sAsg_ap, sPar_ap, sPar3_ap, sAug_ap, sApp_ap, sExt_ap, sSetIx_ap, sFrz_ap, eIxO_ap, eLenO_ap, eIxA_ap, eLenA_ap, vOf_ap, vCons_ap, vOwn_ap, vOwn2_ap, sTup_ap, iSeq_ap, sRaise_ap, sTry_ap, eExF_ap, tIfF_ap, eRev_ap, eRevA_ap, eRevF_ap, th_nx, th_rt, th_bk, th_ct, th_exc, bind_ok, bind_exc, go_ok, go_exc, opAdd_int, opSub_int, opMul_a, opMul_b, opDiv_pos, opDiv_wide, opMod_pos, opI_int, opEq_int, opNe_int, opEq_bool, opNe_bool, atI_0, atI_1, atI_2, atI_3, opIx_list, opIx_tuple, iRan1_ap, bLen_list, bLen_tuple, bInt_int, bAbs_int, bName, bNil, bCons, bTup, List.getElem?_cons_zero, List.getElem?_cons_succ, List.set_cons_zero, List.set_cons_succ, List.length_cons, List.length_nil, noTok, if_true, if_false, decide_true, decide_false, Bool.not_true, Bool.not_false, setAll, List.map_cons, List.map_nil, truD, Bool.true_eq_false, Bool.false_eq_true, Option.bind_some, true_and, and_true, List.replicate, startR, List.cons_append, List.nil_append, Nat.sub_self, reduceIte, ↓reduceIte, isNon, LIM_eq, and_self, List.map_append, List.length_map, Int.toNat_natCast, Nat.zero_le, Nat.reduceLeDiff, Int.reduceNeg, Int.reduceLE, Int.reduceLT, Int.zero_add, ran1_int, ran2_int, noEx, eq_self, dI, dP, dPs]
def accQ (p A i : Nat) : Nat → Int := fun k => sm i fun j => 1 * ind (j * j * A % p = k)
theorem accQ_sq {p A k : Nat} : accQ p A p k - accQ p A p (p - 1) = Sq p A k := by
  unfold accQ Sq comb
  rw [← sm_sub]
  refine sm_congr fun a _ => ?_
  unfold rt
  rw [Int.mul_sub]
theorem m_sum_of_squares_eq {p A : Nat} {P a : Int} (hp : p ∈ P7) (hP : P = (p : Int)) (ha : a % P = (A : Int)) : m_sum_of_squares [.int P, .int a] g = .ok (rowD p (Sq p A)) g := by
  obtain ⟨hp3, hp19⟩ := p7_b p hp
  obtain ⟨ρ1, g1, ⟨rfl, y3, rfl⟩, hw⟩ := sFor_run (fi := iRan1 (aCons (eV 0) aNil)) (b := bName 3) (f := B_sum_of_squares_3) (items := upTo 0 p) (ρ := [.d (.int P), .d (.int a), .own (wid p (accQ p A 0)), .un]) (g := g) (g1 := g)
    (fun i ρ g' => g' = g ∧ ∃ y3 : SV, ρ = [.d (.int P), .d (.int a), .own (wid p (accQ p A i)), y3]) (by
      have e := ran1_int (j := P) (g := g) (by omega) (by omega)
      rw [show P.toNat = p by omega] at e
      generalize wid p (accQ p A 0) = L at *
      simp (disch := omega) only [e, eV_ap, eC_ap, eBin_ap, eNeg_ap, tVal_ap, eIsN_ap, eNotN_ap, eChain_ap, tAndF_ap, tOrF_ap, tNotF_ap, tTru_ap, eAnd_ap, eOr_ap, eNot_ap, eIf_ap, aNil_ap, aCons_ap, eTup_ap, eLst_ap, oNone_ap, oSome_ap, eSl_ap, eCall_ap, iLst_ap, iTpl_ap, iRan2_apN, eOf_ap, oLst_ap, oCat_ap, oRep_ap, oSl_ap, oList_ap, oComp_ap, tYesF_ap, sNil_ap, sSeq_th, sBrk_ap, sCnt_ap, sExpr_ap, sRet_ap, sRetN_ap, sIf_ap, sSet_ap, sSetO_ap, sAsg_ap, sPar_ap, sPar3_ap, sAug_ap, sApp_ap, sExt_ap, sSetIx_ap, sFrz_ap, eIxO_ap, eLenO_ap, eIxA_ap, eLenA_ap, vOf_ap, vCons_ap, vOwn_ap, vOwn2_ap, sTup_ap, iSeq_ap, sRaise_ap, sTry_ap, eExF_ap, tIfF_ap, eRev_ap, eRevA_ap, eRevF_ap, th_nx, th_rt, th_bk, th_ct, th_exc, bind_ok, bind_exc, go_ok, go_exc, opAdd_int, opSub_int, opMul_a, opMul_b, opDiv_pos, opDiv_wide, opMod_pos, opI_int, opEq_int, opNe_int, opEq_bool, opNe_bool, atI_0, atI_1, atI_2, atI_3, opIx_list, opIx_tuple, iRan1_ap, bLen_list, bLen_tuple, bInt_int, bAbs_int, bName, bNil, bCons, bTup, List.getElem?_cons_zero, List.getElem?_cons_succ, List.set_cons_zero, List.set_cons_succ, List.length_cons, List.length_nil, noTok, if_true, if_false, decide_true, decide_false, Bool.not_true, Bool.not_false, setAll, List.map_cons, List.map_nil, truD, Bool.true_eq_false, Bool.false_eq_true, Option.bind_some, true_and, and_true, List.replicate, startR, List.cons_append, List.nil_append, Nat.sub_self, reduceIte, ↓reduceIte, isNon, LIM_eq, and_self, List.map_append, List.length_map, Int.toNat_natCast, Nat.zero_le, Nat.reduceLeDiff, Int.reduceNeg, Int.reduceLE, Int.reduceLT, Int.zero_add, ran2_int, noEx, eq_self, dI, dP, dPs]) ⟨rfl, .un, rfl⟩ (by
      rintro i hi ρ g' ⟨rfl, y3, rfl⟩
      rw [upTo_len] at hi
      obtain ⟨I, hI⟩ : ∃ I : Int, I = (i : Int) := ⟨_, rfl⟩
      refine ⟨[.d (.int P), .d (.int a), .own (wid p (accQ p A i)), .d (.int I)], [.d (.int P), .d (.int a), .own (wid p (accQ p A (i + 1))), .d (.int I)], g', by
        rw [upTo_get (by rw [upTo_len]; exact hi), Int.zero_add, ← hI]
        rfl, .inl ?_, rfl, _, rfl⟩
      have hI2 : I * I = ((i * i : Nat) : Int) := by rw [hI, Int.natCast_mul]
      have hz : I * I * a % P = ((i * i * A % p : Nat) : Int) := by
        rw [Int.mul_emod, ha, hI2, hP, mod_nat, mod_cast1, Nat.mod_mul_mod]
      have hml : i * i * A % p < p := Nat.mod_lt _ (by omega)
      have hil : i * i ≤ 19 * 19 := Nat.mul_le_mul (by omega) (by omega)
      have hmod : opMod (.int (I * I * a)) (.int P) g' = .ok (.int (I * I * a % P)) g' := opMod_pos (by omega)
      have hmul0 : opMul (.int I) (.int I) g' = .ok (.int (I * I)) g' := opMul_a (by omega) (by omega)
      have hmul : opMul (.int (I * I)) (.int a) g' = .ok (.int (I * I * a)) g' := opMul_a (by omega) (by omega)
      show sAugIx 2 (fun i j => i + j) (eBin opMod (eBin opMul (eBin opMul (eV 3) (eV 3)) (eV 1)) (eV 0)) (eC (.int 1)) [.d (.int P), .d (.int a), .own (wid p (accQ p A i)), .d (.int I)] g' = _
      refine Eq.trans (aug_row (p := p) (W := accQ p A i) (m := i * i * A % p) (v := 1) (z := I * I * a % P) rfl ?_ hz hml rfl) ?_
      · generalize wid p (accQ p A i) = L at *
        simp (disch := omega) only [hmul0, hmul, hmod, eV_ap, eC_ap, eBin_ap, eNeg_ap, tVal_ap, eIsN_ap, eNotN_ap, eChain_ap, tAndF_ap, tOrF_ap, tNotF_ap, tTru_ap, eAnd_ap, eOr_ap, eNot_ap, eIf_ap, aNil_ap, aCons_ap, eTup_ap, eLst_ap, oNone_ap, oSome_ap, eSl_ap, eCall_ap, iLst_ap, iTpl_ap, iRan2_apN, eOf_ap, oLst_ap, oCat_ap, oRep_ap, oSl_ap, oList_ap, oComp_ap, tYesF_ap, sNil_ap, sSeq_th, sBrk_ap, sCnt_ap, sExpr_ap, sRet_ap, sRetN_ap, sIf_ap, sSet_ap, sSetO_ap, sAsg_ap, sPar_ap, sPar3_ap, sAug_ap, sApp_ap, sExt_ap, sSetIx_ap, sFrz_ap, eIxO_ap, eLenO_ap, eIxA_ap, eLenA_ap, vOf_ap, vCons_ap, vOwn_ap, vOwn2_ap, sTup_ap, iSeq_ap, sRaise_ap, sTry_ap, eExF_ap, tIfF_ap, eRev_ap, eRevA_ap, eRevF_ap, th_nx, th_rt, th_bk, th_ct, th_exc, bind_ok, bind_exc, go_ok, go_exc, opAdd_int, opSub_int, opDiv_pos, opDiv_wide, opI_int, opEq_int, opNe_int, opEq_bool, opNe_bool, atI_0, atI_1, atI_2, atI_3, opIx_list, opIx_tuple, iRan1_ap, bLen_list, bLen_tuple, bInt_int, bAbs_int, bName, bNil, bCons, bTup, List.getElem?_cons_zero, List.getElem?_cons_succ, List.set_cons_zero, List.set_cons_succ, List.length_cons, List.length_nil, noTok, if_true, if_false, decide_true, decide_false, Bool.not_true, Bool.not_false, setAll, List.map_cons, List.map_nil, truD, Bool.true_eq_false, Bool.false_eq_true, Option.bind_some, true_and, and_true, List.replicate, startR, List.cons_append, List.nil_append, Nat.sub_self, reduceIte, ↓reduceIte, isNon, LIM_eq, and_self, List.map_append, List.length_map, Int.toNat_natCast, Nat.zero_le, Nat.reduceLeDiff, Int.reduceNeg, Int.reduceLE, Int.reduceLT, Int.zero_add, ran1_int, ran2_int, noEx, eq_self, dI, dP, dPs]
      · show SO.nx [.d (.int P), .d (.int a), .own (wid p fun k => if k = i * i * A % p then accQ p A i (i * i * A % p) + 1 else accQ p A i k), .d (.int I)] g' = _
        rw [acc_step (W := accQ p A i) (v := 1) (m := i * i * A % p) (f := accQ p A) (i := i + 1) fun k => rfl])
  rw [upTo_len] at hw
  refine m_rt (np := 2) rfl ?_
  refine Eq.trans (b := sem_sum_of_squares [.d (.int P), .d (.int a), .un, .un] g1) rfl ?_
  have hck := m_check_p (g := g1) hp hP
  refine seq_nx (ρ1 := [.d (.int P), .d (.int a), .un, .un]) (g1 := g1) (by simp (disch := omega) only [S_sum_of_squares_1, hck, eV_ap, eC_ap, eBin_ap, eNeg_ap, tVal_ap, eIsN_ap, eNotN_ap, eChain_ap, tAndF_ap, tOrF_ap, tNotF_ap, tTru_ap, eAnd_ap, eOr_ap, eNot_ap, eIf_ap, aNil_ap, aCons_ap, eTup_ap, eLst_ap, oNone_ap, oSome_ap, eSl_ap, eCall_ap, iLst_ap, iTpl_ap, iRan2_apN, eOf_ap, oLst_ap, oCat_ap, oRep_ap, oSl_ap, oList_ap, oComp_ap, tYesF_ap, sNil_ap, sSeq_th, sBrk_ap, sCnt_ap, sExpr_ap, sRet_ap, sRetN_ap, sIf_ap, sSet_ap, sSetO_ap, sAsg_ap, sPar_ap, sPar3_ap, sAug_ap, sApp_ap, sExt_ap, sSetIx_ap, sFrz_ap, eIxO_ap, eLenO_ap, eIxA_ap, eLenA_ap, vOf_ap, vCons_ap, vOwn_ap, vOwn2_ap, sTup_ap, iSeq_ap, sRaise_ap, sTry_ap, eExF_ap, tIfF_ap, eRev_ap, eRevA_ap, eRevF_ap, th_nx, th_rt, th_bk, th_ct, th_exc, bind_ok, bind_exc, go_ok, go_exc, opAdd_int, opSub_int, opMul_a, opMul_b, opDiv_pos, opDiv_wide, opMod_pos, opI_int, opEq_int, opNe_int, opEq_bool, opNe_bool, atI_0, atI_1, atI_2, atI_3, opIx_list, opIx_tuple, iRan1_ap, bLen_list, bLen_tuple, bInt_int, bAbs_int, bName, bNil, bCons, bTup, List.getElem?_cons_zero, List.getElem?_cons_succ, List.set_cons_zero, List.set_cons_succ, List.length_cons, List.length_nil, noTok, if_true, if_false, decide_true, decide_false, Bool.not_true, Bool.not_false, setAll, List.map_cons, List.map_nil, truD, Bool.true_eq_false, Bool.false_eq_true, Option.bind_some, true_and, and_true, List.replicate, startR, List.cons_append, List.nil_append, Nat.sub_self, reduceIte, ↓reduceIte, isNon, LIM_eq, and_self, List.map_append, List.length_map, Int.toNat_natCast, Nat.zero_le, Nat.reduceLeDiff, Int.reduceNeg, Int.reduceLE, Int.reduceLT, Int.zero_add, ran1_int, ran2_int, noEx, eq_self, dI, dP, dPs]) ?_
  refine seq_nx (ρ1 := [.d (.int P), .d (.int a), .own (wid p (accQ p A 0)), .un]) (g1 := g1) (by
    show ((oRep (eLst (aCons (eC (.int 0)) aNil)) (eV 0)) _ g1).go _ _ = _
    rw [rep_zero (p := p) hP (by omega) rfl, go_ok]
    rfl) ?_
  refine seq_nx (show S_sum_of_squares_3 _ _ = _ from hw) ?_
  refine frz_own rfl ?_
  have hst := m_settled_eq (g := g1) (p := p) (W := accQ p A p) (by omega) (by omega)
  have hco : rowD p (fun k => accQ p A p k - accQ p A p (p - 1)) = rowD p (Sq p A) := rowD_congr fun k _ => accQ_sq
  rw [hco] at hst
  change S_sum_of_squares_5 [.d (.int P), .d (.int a), .d (.list (wid p (accQ p A p))), y3] g1 = _
  generalize wid p (accQ p A p) = L at *
  generalize rowD p (Sq p A) = R3 at *
  simp (disch := omega) only [S_sum_of_squares_5, hst, eV_ap, eC_ap, eBin_ap, eNeg_ap, tVal_ap, eIsN_ap, eNotN_ap, eChain_ap, tAndF_ap, tOrF_ap, tNotF_ap, tTru_ap, eAnd_ap, eOr_ap, eNot_ap, eIf_ap, aNil_ap, aCons_ap, eTup_ap, eLst_ap, oNone_ap, oSome_ap, eSl_ap, eCall_ap, iLst_ap, iTpl_ap, iRan2_apN, eOf_ap, oLst_ap, oCat_ap, oRep_ap, oSl_ap, oList_ap, oComp_ap, tYesF_ap, sNil_ap, sSeq_th, sBrk_ap, sCnt_ap, sExpr_ap, sRet_ap, sRetN_ap, sIf_ap, sSet_ap, sSetO_ap, sAsg_ap, sPar_ap, sPar3_ap, sAug_ap, sApp_ap, sExt_ap, sSetIx_ap, sFrz_ap, eIxO_ap, eLenO_ap, eIxA_ap, eLenA_ap, vOf_ap, vCons_ap, vOwn_ap, vOwn2_ap, sTup_ap, iSeq_ap, sRaise_ap, sTry_ap, eExF_ap, tIfF_ap, eRev_ap, eRevA_ap, eRevF_ap, th_nx, th_rt, th_bk, th_ct, th_exc, bind_ok, bind_exc, go_ok, go_exc, opAdd_int, opSub_int, opMul_a, opMul_b, opDiv_pos, opDiv_wide, opMod_pos, opI_int, opEq_int, opNe_int, opEq_bool, opNe_bool, atI_0, atI_1, atI_2, atI_3, opIx_list, opIx_tuple, iRan1_ap, bLen_list, bLen_tuple, bInt_int, bAbs_int, bName, bNil, bCons, bTup, List.getElem?_cons_zero, List.getElem?_cons_succ, List.set_cons_zero, List.set_cons_succ, List.length_cons, List.length_nil, noTok, if_true, if_false, decide_true, decide_false, Bool.not_true, Bool.not_false, setAll, List.map_cons, List.map_nil, truD, Bool.true_eq_false, Bool.false_eq_true, Option.bind_some, true_and, and_true, List.replicate, startR, List.cons_append, List.nil_append, Nat.sub_self, reduceIte, ↓reduceIte, isNon, LIM_eq, and_self, List.map_append, List.length_map, Int.toNat_natCast, Nat.zero_le, Nat.reduceLeDiff, Int.reduceNeg, Int.reduceLE, Int.reduceLT, Int.zero_add, ran1_int, ran2_int, noEx, eq_self, dI, dP, dPs]
end
end K19
namespace K19
open PySem
open PySem.Spec
open PyProof.Rows
open L2
open DL
theorem mulR_sc {p k : Nat} {x : Int} {r s : Nat → Int} : mulR p (fun i => x * r i) s k = x * mulR p r s k := by
  unfold mulR
  rw [← sm_mul]
  refine sm_congr fun i _ => ?_
  rw [← sm_mul]
  exact sm_congr fun j _ => by rw [Int.mul_assoc x, Int.mul_assoc x]
theorem mul_wh {p k : Nat} {x : Int} {s : Nat → Int} (hp : 2 ≤ p) (hk : k < p - 1) : mulR p (whR x) s k = x * s k := by
  rw [mulR_congr (r' := fun i => x * one p i) (s' := s) (fun i hi => whR_mul hp hi) (fun _ _ => rfl), mulR_sc, mulR_one hp hk]
theorem pwR_congr {p : Nat} {r r' : Nat → Int} (h : Eqr p r r') : ∀ t, Eqr p (pwR p r t) (pwR p r' t)
  | 0 => fun _ _ => rfl
  | t + 1 => fun k hk => by
    show mulR p (pwR p r t) r k = mulR p (pwR p r' t) r' k
    rw [mulR_congr (pwR_congr h t) h]
theorem pw_wh {p : Nat} {s : Int} (hp : 2 ≤ p) : ∀ t, Eqr p (pwR p (whR s) t) (whR (s ^ t))
  | 0 => fun k hk => by
    show one p k = whR (s ^ 0) k
    rw [Int.pow_zero, whR_one hp hk]
  | t + 1 => fun k hk => by
    show mulR p (pwR p (whR s) t) (whR s) k = whR (s ^ (t + 1)) k
    rw [mulR_congr (pw_wh hp t) (fun _ _ => rfl), mul_wh hp hk, whR_mul hp hk, whR_mul hp hk, Int.pow_succ, Int.mul_assoc]
theorem pw_odd {p h : Nat} {s : Int} {r : Nat → Int} (hp : 2 ≤ p) (hr : Eqr p (mulR p r r) (whR s)) : Eqr p (pwR p r (2 * h + 1)) fun k => s ^ h * r k := fun k hk => by
  show mulR p (pwR p r (2 * h)) r k = s ^ h * r k
  rw [mulR_congr (r' := whR (s ^ h)) (s' := r) (fun i hi => by rw [← pwR_sq hp h i hi, pwR_congr hr h i hi, pw_wh hp h i hi]) (fun _ _ => rfl), mul_wh hp hk]
theorem lit_abs {p : Nat} (hp : p ∈ P7) : ∀ k, k < p - 1 → bd 2 (gs p 1 k) := fun k hk => by
  rw [gs_lit hp k hk]
  have : P7.all (fun p => (List.range (p - 1)).all fun k => decide ((lit p k).natAbs < 2 ^ 2)) = true := by decide +kernel
  have h := of_decide_eq_true (atR (at7 this hp) hk)
  exact h
theorem bR.Sq {p b : Nat} (hp : p ≤ 19) : bR 5 p (Sq p b) := fun k _ => by
  have h := sm_abs (n := p) (f := fun i => 1 * K19.rt p (i * i * b) k) (B := 1) fun i _ => by
    rw [Int.one_mul]
    exact rt_abs
  show (K19.Sq p b k).natAbs < 2 ^ 5
  have h : (K19.Sq p b k).natAbs ≤ p * 1 := h
  omega
section
variable {g : G}
theorem m_power_of_eq {p t : Nat} {P T : Int} (hP : P = (p : Int)) (hp : p ≤ 1000) (hT : T = (t : Int)) (ht : t ≤ 100) : m_power_of [.int P, .int T] g = .ok (.int ((p : Int) ^ t)) g := by
  obtain ⟨ρ1, g1, ⟨rfl, y3, rfl⟩, hw⟩ := sFor_run (fi := iRan1 (aCons (eV 1) aNil)) (b := bName 3) (f := B_power_of_2) (items := upTo 0 t) (ρ := [.d (.int P), .d (.int T), .d (.int 1), .un]) (g := g) (g1 := g)
    (fun i ρ g' => g' = g ∧ ∃ y3 : SV, ρ = [.d (.int P), .d (.int T), .d (.int ((p : Int) ^ i)), y3]) (by
      have e := ran1_int (j := T) (g := g) (by omega) (by omega)
      rw [show T.toNat = t by omega] at e
      simp (disch := omega) only [e, eV_ap, eC_ap, eBin_ap, eNeg_ap, tVal_ap, eIsN_ap, eNotN_ap, eChain_ap, tAndF_ap, tOrF_ap, tNotF_ap, tTru_ap, eAnd_ap, eOr_ap, eNot_ap, eIf_ap, aNil_ap, aCons_ap, eTup_ap, eLst_ap, oNone_ap, oSome_ap, eSl_ap, eCall_ap, iLst_ap, iTpl_ap, iRan2_apN, eOf_ap, oLst_ap, oCat_ap, oRep_ap, oSl_ap, oList_ap, oComp_ap, tYesF_ap, sNil_ap, sSeq_th, sBrk_ap, sCnt_ap, sExpr_ap, sRet_ap, sRetN_ap, sIf_ap, sSet_ap, sSetO_ap, sAsg_ap, sPar_ap, sPar3_ap, sAug_ap, sApp_ap, sExt_ap, sSetIx_ap, sFrz_ap, eIxO_ap, eLenO_ap, eIxA_ap, eLenA_ap, vOf_ap, vCons_ap, vOwn_ap, vOwn2_ap, sTup_ap, iSeq_ap, sRaise_ap, sTry_ap, eExF_ap, tIfF_ap, eRev_ap, eRevA_ap, eRevF_ap, th_nx, th_rt, th_bk, th_ct, th_exc, bind_ok, bind_exc, go_ok, go_exc, opAdd_int, opSub_int, opMul_a, opMul_b, opDiv_pos, opDiv_wide, opMod_pos, opI_int, opEq_int, opNe_int, opEq_bool, opNe_bool, atI_0, atI_1, atI_2, atI_3, opIx_list, opIx_tuple, iRan1_ap, bLen_list, bLen_tuple, bInt_int, bAbs_int, bName, bNil, bCons, bTup, List.getElem?_cons_zero, List.getElem?_cons_succ, List.set_cons_zero, List.set_cons_succ, List.length_cons, List.length_nil, noTok, if_true, if_false, decide_true, decide_false, Bool.not_true, Bool.not_false, setAll, List.map_cons, List.map_nil, truD, Bool.true_eq_false, Bool.false_eq_true, Option.bind_some, true_and, and_true, List.replicate, startR, List.cons_append, List.nil_append, Nat.sub_self, reduceIte, ↓reduceIte, isNon, LIM_eq, and_self, List.map_append, List.length_map, Int.toNat_natCast, Nat.zero_le, Nat.reduceLeDiff, Int.reduceNeg, Int.reduceLE, Int.reduceLT, Int.zero_add, ran2_int, noEx, eq_self, dI, dP, dPs]) ⟨rfl, .un, rfl⟩ (by
      rintro i hi ρ g' ⟨rfl, y3, rfl⟩
      rw [upTo_len] at hi
      refine ⟨[.d (.int P), .d (.int T), .d (.int ((p : Int) ^ i)), .d (.int (0 + (i : Int)))], [.d (.int P), .d (.int T), .d (.int ((p : Int) ^ (i + 1))), .d (.int (0 + (i : Int)))], g', by
        rw [upTo_get (by rw [upTo_len]; exact hi)]
        rfl, .inl ?_, rfl, _, rfl⟩
      rw [Int.pow_succ, ← hP]
      generalize P ^ i = X at *
      have hmul : opMul (.int X) (.int P) g' = .ok (.int (X * P)) g' := opMul_b (by omega) (by omega)
      simp (disch := omega) only [B_power_of_2, S_power_of_3, hmul, eV_ap, eC_ap, eBin_ap, eNeg_ap, tVal_ap, eIsN_ap, eNotN_ap, eChain_ap, tAndF_ap, tOrF_ap, tNotF_ap, tTru_ap, eAnd_ap, eOr_ap, eNot_ap, eIf_ap, aNil_ap, aCons_ap, eTup_ap, eLst_ap, oNone_ap, oSome_ap, eSl_ap, eCall_ap, iLst_ap, iTpl_ap, iRan2_apN, eOf_ap, oLst_ap, oCat_ap, oRep_ap, oSl_ap, oList_ap, oComp_ap, tYesF_ap, sNil_ap, sSeq_th, sBrk_ap, sCnt_ap, sExpr_ap, sRet_ap, sRetN_ap, sIf_ap, sSet_ap, sSetO_ap, sAsg_ap, sPar_ap, sPar3_ap, sAug_ap, sApp_ap, sExt_ap, sSetIx_ap, sFrz_ap, eIxO_ap, eLenO_ap, eIxA_ap, eLenA_ap, vOf_ap, vCons_ap, vOwn_ap, vOwn2_ap, sTup_ap, iSeq_ap, sRaise_ap, sTry_ap, eExF_ap, tIfF_ap, eRev_ap, eRevA_ap, eRevF_ap, th_nx, th_rt, th_bk, th_ct, th_exc, bind_ok, bind_exc, go_ok, go_exc, opAdd_int, opSub_int, opDiv_pos, opDiv_wide, opMod_pos, opI_int, opEq_int, opNe_int, opEq_bool, opNe_bool, atI_0, atI_1, atI_2, atI_3, opIx_list, opIx_tuple, iRan1_ap, bLen_list, bLen_tuple, bInt_int, bAbs_int, bName, bNil, bCons, bTup, List.getElem?_cons_zero, List.getElem?_cons_succ, List.set_cons_zero, List.set_cons_succ, List.length_cons, List.length_nil, noTok, if_true, if_false, decide_true, decide_false, Bool.not_true, Bool.not_false, setAll, List.map_cons, List.map_nil, truD, Bool.true_eq_false, Bool.false_eq_true, Option.bind_some, true_and, and_true, List.replicate, startR, List.cons_append, List.nil_append, Nat.sub_self, reduceIte, ↓reduceIte, isNon, LIM_eq, and_self, List.map_append, List.length_map, Int.toNat_natCast, Nat.zero_le, Nat.reduceLeDiff, Int.reduceNeg, Int.reduceLE, Int.reduceLT, Int.zero_add, ran1_int, ran2_int, noEx, eq_self, dI, dP, dPs])
  rw [upTo_len] at hw
  refine m_rt (np := 2) rfl ?_
  refine Eq.trans (b := sem_power_of [.d (.int P), .d (.int T), .un, .un] g1) rfl ?_
  refine seq_nx (ρ1 := [.d (.int P), .d (.int T), .d (.int 1), .un]) (g1 := g1) (by simp (disch := omega) only [S_power_of_1, eV_ap, eC_ap, eBin_ap, eNeg_ap, tVal_ap, eIsN_ap, eNotN_ap, eChain_ap, tAndF_ap, tOrF_ap, tNotF_ap, tTru_ap, eAnd_ap, eOr_ap, eNot_ap, eIf_ap, aNil_ap, aCons_ap, eTup_ap, eLst_ap, oNone_ap, oSome_ap, eSl_ap, eCall_ap, iLst_ap, iTpl_ap, iRan2_apN, eOf_ap, oLst_ap, oCat_ap, oRep_ap, oSl_ap, oList_ap, oComp_ap, tYesF_ap, sNil_ap, sSeq_th, sBrk_ap, sCnt_ap, sExpr_ap, sRet_ap, sRetN_ap, sIf_ap, sSet_ap, sSetO_ap, sAsg_ap, sPar_ap, sPar3_ap, sAug_ap, sApp_ap, sExt_ap, sSetIx_ap, sFrz_ap, eIxO_ap, eLenO_ap, eIxA_ap, eLenA_ap, vOf_ap, vCons_ap, vOwn_ap, vOwn2_ap, sTup_ap, iSeq_ap, sRaise_ap, sTry_ap, eExF_ap, tIfF_ap, eRev_ap, eRevA_ap, eRevF_ap, th_nx, th_rt, th_bk, th_ct, th_exc, bind_ok, bind_exc, go_ok, go_exc, opAdd_int, opSub_int, opMul_a, opMul_b, opDiv_pos, opDiv_wide, opMod_pos, opI_int, opEq_int, opNe_int, opEq_bool, opNe_bool, atI_0, atI_1, atI_2, atI_3, opIx_list, opIx_tuple, iRan1_ap, bLen_list, bLen_tuple, bInt_int, bAbs_int, bName, bNil, bCons, bTup, List.getElem?_cons_zero, List.getElem?_cons_succ, List.set_cons_zero, List.set_cons_succ, List.length_cons, List.length_nil, noTok, if_true, if_false, decide_true, decide_false, Bool.not_true, Bool.not_false, setAll, List.map_cons, List.map_nil, truD, Bool.true_eq_false, Bool.false_eq_true, Option.bind_some, true_and, and_true, List.replicate, startR, List.cons_append, List.nil_append, Nat.sub_self, reduceIte, ↓reduceIte, isNon, LIM_eq, and_self, List.map_append, List.length_map, Int.toNat_natCast, Nat.zero_le, Nat.reduceLeDiff, Int.reduceNeg, Int.reduceLE, Int.reduceLT, Int.zero_add, ran1_int, ran2_int, noEx, eq_self, dI, dP, dPs]) ?_
  refine seq_nx (show S_power_of_2 _ _ = _ from hw) ?_
  generalize (p : Int) ^ t = X at *
  simp (disch := omega) only [S_power_of_4, eV_ap, eC_ap, eBin_ap, eNeg_ap, tVal_ap, eIsN_ap, eNotN_ap, eChain_ap, tAndF_ap, tOrF_ap, tNotF_ap, tTru_ap, eAnd_ap, eOr_ap, eNot_ap, eIf_ap, aNil_ap, aCons_ap, eTup_ap, eLst_ap, oNone_ap, oSome_ap, eSl_ap, eCall_ap, iLst_ap, iTpl_ap, iRan2_apN, eOf_ap, oLst_ap, oCat_ap, oRep_ap, oSl_ap, oList_ap, oComp_ap, tYesF_ap, sNil_ap, sSeq_th, sBrk_ap, sCnt_ap, sExpr_ap, sRet_ap, sRetN_ap, sIf_ap, sSet_ap, sSetO_ap, sAsg_ap, sPar_ap, sPar3_ap, sAug_ap, sApp_ap, sExt_ap, sSetIx_ap, sFrz_ap, eIxO_ap, eLenO_ap, eIxA_ap, eLenA_ap, vOf_ap, vCons_ap, vOwn_ap, vOwn2_ap, sTup_ap, iSeq_ap, sRaise_ap, sTry_ap, eExF_ap, tIfF_ap, eRev_ap, eRevA_ap, eRevF_ap, th_nx, th_rt, th_bk, th_ct, th_exc, bind_ok, bind_exc, go_ok, go_exc, opAdd_int, opSub_int, opMul_a, opMul_b, opDiv_pos, opDiv_wide, opMod_pos, opI_int, opEq_int, opNe_int, opEq_bool, opNe_bool, atI_0, atI_1, atI_2, atI_3, opIx_list, opIx_tuple, iRan1_ap, bLen_list, bLen_tuple, bInt_int, bAbs_int, bName, bNil, bCons, bTup, List.getElem?_cons_zero, List.getElem?_cons_succ, List.set_cons_zero, List.set_cons_succ, List.length_cons, List.length_nil, noTok, if_true, if_false, decide_true, decide_false, Bool.not_true, Bool.not_false, setAll, List.map_cons, List.map_nil, truD, Bool.true_eq_false, Bool.false_eq_true, Option.bind_some, true_and, and_true, List.replicate, startR, List.cons_append, List.nil_append, Nat.sub_self, reduceIte, ↓reduceIte, isNon, LIM_eq, and_self, List.map_append, List.length_map, Int.toNat_natCast, Nat.zero_le, Nat.reduceLeDiff, Int.reduceNeg, Int.reduceLE, Int.reduceLT, Int.zero_add, ran1_int, ran2_int, noEx, eq_self, dI, dP, dPs]
def mAt (p v b : Nat) : Nat := (b + 1) * (p - v % p) % p
theorem mAt_eq {p v b : Nat} {P V : Int} (hp : 1 ≤ p) (hP : P = (p : Int)) (hV : V = (v : Int)) : (0 - (1 + (b : Int)) * V) % P = ((mAt p v b : Nat) : Int) := by
  have hm := Nat.mod_lt v (show 0 < p by omega)
  have hd := Nat.div_add_mod v p
  unfold mAt
  rw [← mod_nat, hP, hV, Int.natCast_mul, Int.natCast_sub (by omega : v % p ≤ p)]
  have e : 0 - (1 + (b : Int)) * (v : Int) = ((b + 1 : Nat) : Int) * ((p : Int) - ((v % p : Nat) : Int)) + (p : Int) * (-((b : Int) + 1) * (((v / p : Nat) : Int) + 1)) := by
    have : (v : Int) = (p : Int) * ((v / p : Nat) : Int) + ((v % p : Nat) : Int) := by
      rw [← Int.natCast_mul, ← Int.natCast_add, hd]
    rw [Int.natCast_succ]
    generalize ((v / p : Nat) : Int) = D at *
    generalize ((v % p : Nat) : Int) = M at *
    grind
  rw [e, Int.add_mul_emod_self_left]
def fR (p t v i : Nat) : Nat → Int := fun k => whR ((p : Int) ^ t) k + sm i fun b => mulR p (pwR p (Sq p (b + 1)) t) (rt p (mAt p v b)) k
theorem fR_end {p t v : Nat} (hp : p ∈ P7) : Eqr p (fR p t v (p - 1)) (whR (p * Nn p t (v % p))) := fun k hk => by
  obtain ⟨hp3, hp19⟩ := p7_b p hp
  refine sums_all hp3 (p7_pr hp) hk (Nat.mod_lt _ (by omega)) fun b _ => ?_
  unfold mAt
  rw [Nat.mod_mod]
theorem m_many_sums_eq {p t v : Nat} {P T V : Int} (hp : p ∈ P7) (hP : P = (p : Int)) (hT : T = (t : Int)) (ht : t ≤ 3) (hV : V = (v : Int)) (hv : v ≤ 100) : m_many_sums [.int P, .int T, .int V] g = .ok (.int (Nn p t (v % p))) g := by
  obtain ⟨hp3, hp19⟩ := p7_b p hp
  obtain ⟨ρ1, g1, ⟨rfl, y4, rfl⟩, hw⟩ := sFor_run (fi := iRan2 (aCons (eC (.int 1)) (aCons (eV 0) aNil))) (b := bName 4) (f := B_many_sums_3) (items := upTo 1 (p - 1)) (ρ := [.d (.int P), .d (.int T), .d (.int V), .d (rowD p (fR p t v 0)), .un]) (g := g) (g1 := g)
    (fun i ρ g' => g' = g ∧ ∃ y4 : SV, ρ = [.d (.int P), .d (.int T), .d (.int V), .d (rowD p (fR p t v i)), y4]) (by
      have e := ran2_int (i := 1) (j := P) (g := g) (by omega) (by omega) (by omega) (by omega)
      rw [show (P - 1).toNat = p - 1 by omega] at e
      generalize rowD p (fR p t v 0) = L at *
      simp (disch := omega) only [e, eV_ap, eC_ap, eBin_ap, eNeg_ap, tVal_ap, eIsN_ap, eNotN_ap, eChain_ap, tAndF_ap, tOrF_ap, tNotF_ap, tTru_ap, eAnd_ap, eOr_ap, eNot_ap, eIf_ap, aNil_ap, aCons_ap, eTup_ap, eLst_ap, oNone_ap, oSome_ap, eSl_ap, eCall_ap, iLst_ap, iTpl_ap, iRan2_apN, eOf_ap, oLst_ap, oCat_ap, oRep_ap, oSl_ap, oList_ap, oComp_ap, tYesF_ap, sNil_ap, sSeq_th, sBrk_ap, sCnt_ap, sExpr_ap, sRet_ap, sRetN_ap, sIf_ap, sSet_ap, sSetO_ap, sAsg_ap, sPar_ap, sPar3_ap, sAug_ap, sApp_ap, sExt_ap, sSetIx_ap, sFrz_ap, eIxO_ap, eLenO_ap, eIxA_ap, eLenA_ap, vOf_ap, vCons_ap, vOwn_ap, vOwn2_ap, sTup_ap, iSeq_ap, sRaise_ap, sTry_ap, eExF_ap, tIfF_ap, eRev_ap, eRevA_ap, eRevF_ap, th_nx, th_rt, th_bk, th_ct, th_exc, bind_ok, bind_exc, go_ok, go_exc, opAdd_int, opSub_int, opMul_a, opMul_b, opDiv_pos, opDiv_wide, opMod_pos, opI_int, opEq_int, opNe_int, opEq_bool, opNe_bool, atI_0, atI_1, atI_2, atI_3, opIx_list, opIx_tuple, iRan1_ap, bLen_list, bLen_tuple, bInt_int, bAbs_int, bName, bNil, bCons, bTup, List.getElem?_cons_zero, List.getElem?_cons_succ, List.set_cons_zero, List.set_cons_succ, List.length_cons, List.length_nil, noTok, if_true, if_false, decide_true, decide_false, Bool.not_true, Bool.not_false, setAll, List.map_cons, List.map_nil, truD, Bool.true_eq_false, Bool.false_eq_true, Option.bind_some, true_and, and_true, List.replicate, startR, List.cons_append, List.nil_append, Nat.sub_self, reduceIte, ↓reduceIte, isNon, LIM_eq, and_self, List.map_append, List.length_map, Int.toNat_natCast, Nat.zero_le, Nat.reduceLeDiff, Int.reduceNeg, Int.reduceLE, Int.reduceLT, Int.zero_add, ran1_int, noEx, eq_self, dI, dP, dPs]) ⟨rfl, .un, rfl⟩ (by
      rintro i hi ρ g' ⟨rfl, y4, rfl⟩
      rw [upTo_len] at hi
      obtain ⟨I, hI⟩ : ∃ I : Int, I = 1 + (i : Int) := ⟨_, rfl⟩
      refine ⟨[.d (.int P), .d (.int T), .d (.int V), .d (rowD p (fR p t v i)), .d (.int I)], [.d (.int P), .d (.int T), .d (.int V), .d (rowD p (fR p t v (i + 1))), .d (.int I)], g', by
        rw [upTo_get (by rw [upTo_len]; exact hi), ← hI]
        rfl, .inl ?_, rfl, _, rfl⟩
      have h1 := m_sum_of_squares_eq (g := g') (A := i + 1) hp hP (show I % P = ((i + 1 : Nat) : Int) by rw [Int.emod_eq_of_lt (by omega) (by omega)]; omega)
      have h2 := m_power_eq (g := g') (K := t) (r := Sq p (i + 1)) (n := 5) hp3 (by omega) (bR.Sq hp19) (by omega) (by
        have : 15 * (t + 1) ≤ 15 * 4 := Nat.mul_le_mul_left _ (by omega)
        omega)
      have h3 := m_root_power_eq (g := g') (p := p) (m := mAt p v i) (P := P) (a := 0 - I * V) hP (by omega) (by omega) (by rw [hI]; exact mAt_eq (by omega) hP hV)
      have hb := bR.pw (p := p) (n := 5) (r := Sq p (i + 1)) (by omega) (bR.Sq hp19) t
      have h4 := m_times_eq (g := g') (r := pwR p (Sq p (i + 1)) t) (s := rt p (mAt p v i)) (n := 1 + t * (5 + 10)) (m := 1) (by omega) (by omega) hb bR.rt (by
        have : t * (5 + 10) ≤ 3 * 15 := Nat.mul_le_mul_right _ ht
        omega)
      have h5 := m_plus_eq (g := g') (p := p) (r := fR p t v i) (s := mulR p (pwR p (Sq p (i + 1)) t) (rt p (mAt p v i))) (by omega)
      have hco : rowD p (fun k => fR p t v i k + mulR p (pwR p (Sq p (i + 1)) t) (rt p (mAt p v i)) k) = rowD p (fR p t v (i + 1)) := rowD_congr fun k _ => Int.add_assoc _ _ _
      rw [hco] at h5
      rw [← hT] at h2
      have hmul : opMul (.int I) (.int V) g' = .ok (.int (I * V)) g' := opMul_a (by omega) (by omega)
      generalize rowD p (Sq p (i + 1)) = R1 at *
      generalize rowD p (pwR p (Sq p (i + 1)) t) = R2 at *
      generalize rowD p (rt p (mAt p v i)) = R3 at *
      generalize rowD p (mulR p (pwR p (Sq p (i + 1)) t) (rt p (mAt p v i))) = R4 at *
      generalize rowD p (fR p t v i) = R5 at *
      generalize rowD p (fR p t v (i + 1)) = R6 at *
      simp (disch := omega) only [B_many_sums_3, S_many_sums_4, h1, h2, h3, h4, h5, hmul, eV_ap, eC_ap, eBin_ap, eNeg_ap, tVal_ap, eIsN_ap, eNotN_ap, eChain_ap, tAndF_ap, tOrF_ap, tNotF_ap, tTru_ap, eAnd_ap, eOr_ap, eNot_ap, eIf_ap, aNil_ap, aCons_ap, eTup_ap, eLst_ap, oNone_ap, oSome_ap, eSl_ap, eCall_ap, iLst_ap, iTpl_ap, iRan2_apN, eOf_ap, oLst_ap, oCat_ap, oRep_ap, oSl_ap, oList_ap, oComp_ap, tYesF_ap, sNil_ap, sSeq_th, sBrk_ap, sCnt_ap, sExpr_ap, sRet_ap, sRetN_ap, sIf_ap, sSet_ap, sSetO_ap, sAsg_ap, sPar_ap, sPar3_ap, sAug_ap, sApp_ap, sExt_ap, sSetIx_ap, sFrz_ap, eIxO_ap, eLenO_ap, eIxA_ap, eLenA_ap, vOf_ap, vCons_ap, vOwn_ap, vOwn2_ap, sTup_ap, iSeq_ap, sRaise_ap, sTry_ap, eExF_ap, tIfF_ap, eRev_ap, eRevA_ap, eRevF_ap, th_nx, th_rt, th_bk, th_ct, th_exc, bind_ok, bind_exc, go_ok, go_exc, opAdd_int, opSub_int, opDiv_pos, opDiv_wide, opMod_pos, opI_int, opEq_int, opNe_int, opEq_bool, opNe_bool, atI_0, atI_1, atI_2, atI_3, opIx_list, opIx_tuple, iRan1_ap, bLen_list, bLen_tuple, bInt_int, bAbs_int, bName, bNil, bCons, bTup, List.getElem?_cons_zero, List.getElem?_cons_succ, List.set_cons_zero, List.set_cons_succ, List.length_cons, List.length_nil, noTok, if_true, if_false, decide_true, decide_false, Bool.not_true, Bool.not_false, setAll, List.map_cons, List.map_nil, truD, Bool.true_eq_false, Bool.false_eq_true, Option.bind_some, true_and, and_true, List.replicate, startR, List.cons_append, List.nil_append, Nat.sub_self, reduceIte, ↓reduceIte, isNon, LIM_eq, and_self, List.map_append, List.length_map, Int.toNat_natCast, Nat.zero_le, Nat.reduceLeDiff, Int.reduceNeg, Int.reduceLE, Int.reduceLT, Int.zero_add, ran1_int, ran2_int, noEx, eq_self, dI, dP, dPs])
  rw [upTo_len] at hw
  refine m_rt (np := 3) rfl ?_
  refine Eq.trans (b := sem_many_sums [.d (.int P), .d (.int T), .d (.int V), .un, .un] g1) rfl ?_
  have hck := m_check_p (g := g1) hp hP
  have h1 := m_power_of_eq (g := g1) (p := p) hP (by omega) hT (by omega)
  have h2 := m_whole_eq (g := g1) (x := (p : Int) ^ t) hP hp3 (by omega)
  have hco : rowD p (whR ((p : Int) ^ t)) = rowD p (fR p t v 0) := rowD_congr fun k _ => (Int.add_zero _).symm
  rw [hco] at h2
  refine seq_nx (ρ1 := [.d (.int P), .d (.int T), .d (.int V), .un, .un]) (g1 := g1) (by simp (disch := omega) only [S_many_sums_1, hck, eV_ap, eC_ap, eBin_ap, eNeg_ap, tVal_ap, eIsN_ap, eNotN_ap, eChain_ap, tAndF_ap, tOrF_ap, tNotF_ap, tTru_ap, eAnd_ap, eOr_ap, eNot_ap, eIf_ap, aNil_ap, aCons_ap, eTup_ap, eLst_ap, oNone_ap, oSome_ap, eSl_ap, eCall_ap, iLst_ap, iTpl_ap, iRan2_apN, eOf_ap, oLst_ap, oCat_ap, oRep_ap, oSl_ap, oList_ap, oComp_ap, tYesF_ap, sNil_ap, sSeq_th, sBrk_ap, sCnt_ap, sExpr_ap, sRet_ap, sRetN_ap, sIf_ap, sSet_ap, sSetO_ap, sAsg_ap, sPar_ap, sPar3_ap, sAug_ap, sApp_ap, sExt_ap, sSetIx_ap, sFrz_ap, eIxO_ap, eLenO_ap, eIxA_ap, eLenA_ap, vOf_ap, vCons_ap, vOwn_ap, vOwn2_ap, sTup_ap, iSeq_ap, sRaise_ap, sTry_ap, eExF_ap, tIfF_ap, eRev_ap, eRevA_ap, eRevF_ap, th_nx, th_rt, th_bk, th_ct, th_exc, bind_ok, bind_exc, go_ok, go_exc, opAdd_int, opSub_int, opMul_a, opMul_b, opDiv_pos, opDiv_wide, opMod_pos, opI_int, opEq_int, opNe_int, opEq_bool, opNe_bool, atI_0, atI_1, atI_2, atI_3, opIx_list, opIx_tuple, iRan1_ap, bLen_list, bLen_tuple, bInt_int, bAbs_int, bName, bNil, bCons, bTup, List.getElem?_cons_zero, List.getElem?_cons_succ, List.set_cons_zero, List.set_cons_succ, List.length_cons, List.length_nil, noTok, if_true, if_false, decide_true, decide_false, Bool.not_true, Bool.not_false, setAll, List.map_cons, List.map_nil, truD, Bool.true_eq_false, Bool.false_eq_true, Option.bind_some, true_and, and_true, List.replicate, startR, List.cons_append, List.nil_append, Nat.sub_self, reduceIte, ↓reduceIte, isNon, LIM_eq, and_self, List.map_append, List.length_map, Int.toNat_natCast, Nat.zero_le, Nat.reduceLeDiff, Int.reduceNeg, Int.reduceLE, Int.reduceLT, Int.zero_add, ran1_int, ran2_int, noEx, eq_self, dI, dP, dPs]) ?_
  refine seq_nx (ρ1 := [.d (.int P), .d (.int T), .d (.int V), .d (rowD p (fR p t v 0)), .un]) (g1 := g1) (by
    generalize rowD p (fR p t v 0) = R1 at *
    generalize (p : Int) ^ t = X at *
    simp (disch := omega) only [S_many_sums_2, h1, h2, eV_ap, eC_ap, eBin_ap, eNeg_ap, tVal_ap, eIsN_ap, eNotN_ap, eChain_ap, tAndF_ap, tOrF_ap, tNotF_ap, tTru_ap, eAnd_ap, eOr_ap, eNot_ap, eIf_ap, aNil_ap, aCons_ap, eTup_ap, eLst_ap, oNone_ap, oSome_ap, eSl_ap, eCall_ap, iLst_ap, iTpl_ap, iRan2_apN, eOf_ap, oLst_ap, oCat_ap, oRep_ap, oSl_ap, oList_ap, oComp_ap, tYesF_ap, sNil_ap, sSeq_th, sBrk_ap, sCnt_ap, sExpr_ap, sRet_ap, sRetN_ap, sIf_ap, sSet_ap, sSetO_ap, sAsg_ap, sPar_ap, sPar3_ap, sAug_ap, sApp_ap, sExt_ap, sSetIx_ap, sFrz_ap, eIxO_ap, eLenO_ap, eIxA_ap, eLenA_ap, vOf_ap, vCons_ap, vOwn_ap, vOwn2_ap, sTup_ap, iSeq_ap, sRaise_ap, sTry_ap, eExF_ap, tIfF_ap, eRev_ap, eRevA_ap, eRevF_ap, th_nx, th_rt, th_bk, th_ct, th_exc, bind_ok, bind_exc, go_ok, go_exc, opAdd_int, opSub_int, opMul_a, opMul_b, opDiv_pos, opDiv_wide, opMod_pos, opI_int, opEq_int, opNe_int, opEq_bool, opNe_bool, atI_0, atI_1, atI_2, atI_3, opIx_list, opIx_tuple, iRan1_ap, bLen_list, bLen_tuple, bInt_int, bAbs_int, bName, bNil, bCons, bTup, List.getElem?_cons_zero, List.getElem?_cons_succ, List.set_cons_zero, List.set_cons_succ, List.length_cons, List.length_nil, noTok, if_true, if_false, decide_true, decide_false, Bool.not_true, Bool.not_false, setAll, List.map_cons, List.map_nil, truD, Bool.true_eq_false, Bool.false_eq_true, Option.bind_some, true_and, and_true, List.replicate, startR, List.cons_append, List.nil_append, Nat.sub_self, reduceIte, ↓reduceIte, isNon, LIM_eq, and_self, List.map_append, List.length_map, Int.toNat_natCast, Nat.zero_le, Nat.reduceLeDiff, Int.reduceNeg, Int.reduceLE, Int.reduceLT, Int.zero_add, ran1_int, ran2_int, noEx, eq_self, dI, dP, dPs]) ?_
  refine seq_nx (show S_many_sums_3 _ _ = _ from hw) ?_
  rw [rowD_congr (fR_end hp)]
  have h3 := m_is_whole_row_eq (g := g1) (p := p) (r := whR (p * Nn p t (v % p))) (by omega) (by omega)
  have h4 : ((List.range (p - 2)).map fun k => decide (whR (p * Nn p t (v % p)) (k + 1) = 0)).all id = true := by
    rw [List.all_eq_true]
    intro x hx
    obtain ⟨k, _, rfl⟩ := List.mem_map.mp hx
    rfl
  rw [h4] at h3
  have h0 : atI (wid (p - 1) (whR (p * Nn p t (v % p)))) 0 = some (.int (p * Nn p t (v % p))) := atI_wid (m := 0) rfl (by omega)
  have e0 : opMod (.int (p * Nn p t (v % p))) (.int P) g1 = .ok (.int 0) g1 := by
    rw [opMod_pos (by omega), hP, Int.mul_emod_right]
  have e1 : opDiv (.int (p * Nn p t (v % p))) (.int P) g1 = .ok (.int (Nn p t (v % p))) g1 := by
    rw [opDiv_pos (by omega) (by omega), hP, Int.mul_ediv_cancel_left _ (by omega)]
  change sSeq S_many_sums_5 S_many_sums_7 [.d (.int P), .d (.int T), .d (.int V), .d (.tuple (wid (p - 1) (whR (p * Nn p t (v % p))))), y4] g1 = _
  change m_is_whole_row [.tuple (wid (p - 1) (whR (p * Nn p t (v % p))))] g1 = _ at h3
  generalize wid (p - 1) (whR (p * Nn p t (v % p))) = R at *
  generalize (p : Int) * Nn p t (v % p) = X at *
  simp (disch := omega) only [S_many_sums_5, S_many_sums_7, h3, h0, e0, e1, eV_ap, eC_ap, eBin_ap, eNeg_ap, tVal_ap, eIsN_ap, eNotN_ap, eChain_ap, tAndF_ap, tOrF_ap, tNotF_ap, tTru_ap, eAnd_ap, eOr_ap, eNot_ap, eIf_ap, aNil_ap, aCons_ap, eTup_ap, eLst_ap, oNone_ap, oSome_ap, eSl_ap, eCall_ap, iLst_ap, iTpl_ap, iRan2_apN, eOf_ap, oLst_ap, oCat_ap, oRep_ap, oSl_ap, oList_ap, oComp_ap, tYesF_ap, sNil_ap, sSeq_th, sBrk_ap, sCnt_ap, sExpr_ap, sRet_ap, sRetN_ap, sIf_ap, sSet_ap, sSetO_ap, sAsg_ap, sPar_ap, sPar3_ap, sAug_ap, sApp_ap, sExt_ap, sSetIx_ap, sFrz_ap, eIxO_ap, eLenO_ap, eIxA_ap, eLenA_ap, vOf_ap, vCons_ap, vOwn_ap, vOwn2_ap, sTup_ap, iSeq_ap, sRaise_ap, sTry_ap, eExF_ap, tIfF_ap, eRev_ap, eRevA_ap, eRevF_ap, th_nx, th_rt, th_bk, th_ct, th_exc, bind_ok, bind_exc, go_ok, go_exc, opAdd_int, opSub_int, opMul_a, opMul_b, opDiv_wide, opI_int, opEq_int, opNe_int, opEq_bool, opNe_bool, atI_0, atI_1, atI_2, atI_3, opIx_list, opIx_tuple, iRan1_ap, bLen_list, bLen_tuple, bInt_int, bAbs_int, bName, bNil, bCons, bTup, List.getElem?_cons_zero, List.getElem?_cons_succ, List.set_cons_zero, List.set_cons_succ, List.length_cons, List.length_nil, noTok, if_true, if_false, decide_true, decide_false, Bool.not_true, Bool.not_false, setAll, List.map_cons, List.map_nil, truD, Bool.true_eq_false, Bool.false_eq_true, Option.bind_some, true_and, and_true, List.replicate, startR, List.cons_append, List.nil_append, Nat.sub_self, reduceIte, ↓reduceIte, isNon, LIM_eq, and_self, List.map_append, List.length_map, Int.toNat_natCast, Nat.zero_le, Nat.reduceLeDiff, Int.reduceNeg, Int.reduceLE, Int.reduceLT, Int.zero_add, ran1_int, ran2_int, noEx, eq_self, dI, dP, dPs]
end
end K19
namespace K19
open PySem
open PySem.Spec
open PyProof.Rows
open L2
open DL
theorem lay_row {p : Nat} {r : Nat → Int} : lay 1 (rowD p r) := lay_tuple fun x hx => by
  unfold wid at hx
  obtain ⟨i, _, rfl⟩ := List.mem_map.mp hx
  exact lay_int
theorem lay_wid {p : Nat} {r : Nat → Int} : lay 1 (.list (wid p r)) := lay_list fun x hx => by
  unfold wid at hx
  obtain ⟨i, _, rfl⟩ := List.mem_map.mp hx
  exact lay_int
theorem eqv_row {p : Nat} {r s : Nat → Int} : PyData.eqv (rowD p r) (rowD p s) = decide ((List.range (p - 1)).map r = (List.range (p - 1)).map s) := by
  have h : PyData.eqv (.list (((List.range (p - 1)).map r).map .int)) (.list (((List.range (p - 1)).map s).map .int)) = decide ((List.range (p - 1)).map r = (List.range (p - 1)).map s) := PySem.W.Datum.eqv (α := List Int) _ _
  rw [← h]
  show PyData.eqv (.tuple (wid (p - 1) r)) (.tuple (wid (p - 1) s)) = _
  rw [wid_ints, wid_ints, PyData.eqv, PyData.eqv]
theorem rows_eq {p : Nat} {r s : Nat → Int} : (List.range (p - 1)).map r = (List.range (p - 1)).map s ↔ Eqr p r s := by
  constructor
  · intro h k hk
    have e1 : ((List.range (p - 1)).map r)[k]? = some (r k) := by rw [List.getElem?_map, List.getElem?_range hk]; rfl
    have e2 : ((List.range (p - 1)).map s)[k]? = some (s k) := by rw [List.getElem?_map, List.getElem?_range hk]; rfl
    rw [h, e2] at e1
    exact (Option.some.inj e1).symm
  · intro h
    exact List.map_congr_left fun k hk => h k (List.mem_range.mp hk)
section
variable {g : G}
theorem ne_row {p : Nat} {r s : Nat → Int} (h : Eqr p r s) : opNe (rowD p r) (rowD p s) g = .ok (.bool false) g := by
  rw [opNe_shp (lay_row.shp (by decide)) (lay_row.shp (by decide)), eqv_row, decide_eq_true (rows_eq.mpr h)]
  rfl
theorem eq_row {p : Nat} {r s : Nat → Int} (h : Eqr p r s) : opEq (rowD p r) (rowD p s) g = .ok (.bool true) g := by
  rw [opEq_shp (lay_row.shp (by decide)) (lay_row.shp (by decide)), eqv_row, decide_eq_true (rows_eq.mpr h)]
theorem eq_rowF {p k : Nat} {r s : Nat → Int} (hk : k < p - 1) (h : ¬ r k = s k) : opEq (rowD p r) (rowD p s) g = .ok (.bool false) g := by
  rw [opEq_shp (lay_row.shp (by decide)) (lay_row.shp (by decide)), eqv_row, decide_eq_false fun e => h (rows_eq.mp e k hk)]
theorem wid_const {p : Nat} {c : Int} : (List.replicate p [PyData.int c]).flatten = wid p fun _ => c := by
  refine wid_ext ?_ fun i hi => ?_
  · rw [List.length_flatten, List.map_replicate, List.sum_replicate_nat]
    show p * 1 = p
    omega
  · have : ∀ n : Nat, ∀ i, i < n → (List.replicate n [PyData.int c]).flatten[i]? = some (.int c) := by
      intro n
      induction n with
      | zero => intro i h; omega
      | succ n ih =>
        intro i h
        rw [List.replicate_succ, List.flatten_cons]
        cases i with
        | zero => rfl
        | succ i => exact ih i (by omega)
    exact this p i hi
theorem mul_const {p : Nat} {P c : Int} (hP : P = (p : Int)) (hp2 : p ≤ 1000) : opMul (.list [.int c]) (.int P) g = .ok (.list (wid p fun _ => c)) g := by
  have c1 : P ≤ (LIM : Int) ∧ -(2 ^ 62) ≤ P ∧ [PyData.int c].length * P.toNat ≤ LIM := ⟨by rw [LIM_eq]; omega, by omega, by rw [LIM_eq]; show 1 * P.toNat ≤ _; omega⟩
  rw [← wid_const]
  show (if P ≤ LIM ∧ -(2 ^ 62) ≤ P ∧ [PyData.int c].length * P.toNat ≤ LIM then Out.ok (PyData.list (List.replicate P.toNat [PyData.int c]).flatten) g else .bad) = _
  rw [if_pos c1, show P.toNat = p by omega]
theorem draws {vs : List Nat} {fi : LF} {b : BF} {fe : EF} {ρ : RS} {n : Nat} (hi : fi ρ g = .ok (upTo 0 n) g) (hn : n ≤ 1000) (h : ∀ x : D, ∃ ρ1, b x (wipeR ρ vs) = some ρ1 ∧ ∀ g, ∃ v g', fe ρ1 g = .ok (.int v) g' ∧ bd 3 v) : ∃ f g', oComp vs fi b tYesF fe ρ g = .ok (wid n f) g' ∧ ∀ k, bd 3 (f k) := by
  obtain ⟨ds, g', ⟨f, e, hf⟩, q⟩ := oComp_run (vs := vs) (b := b) (ft := tYesF) (fe := fe) (fun i acc _ => ∃ f : Nat → Int, acc = wid i f ∧ ∀ k, bd 3 (f k)) hi (by rw [upTo_len, LIM_eq]; omega) ⟨fun _ => 0, rfl, fun _ => show (0 : Int).natAbs < 2 ^ 3 by decide⟩ (fun i hx acc g' ⟨f, e, hf⟩ => by
    obtain ⟨ρ1, h1, h2⟩ := h (upTo 0 n)[i]
    obtain ⟨v, g2, h3, h4⟩ := h2 g'
    refine ⟨ρ1, g', h1, .inr ⟨rfl, .int v, g2, h3, rfl, fun k => if k = i then v else f k, ?_, fun k => ?_⟩⟩
    · rw [wid_succ, e, if_pos rfl]
      congr 1
      exact wid_congr fun k hk => by rw [if_neg (by omega)]
    · show bd 3 (if k = i then v else f k)
      split
      · exact h4
      · exact hf k)
  rw [upTo_len] at e
  exact ⟨f, g', by rw [q, e], hf⟩
theorem set_add {i p m : Nat} {fj fv : EF} {ρ : RS} {W : Nat → Int} {v z : Int} (h : ρ[i]? = some (.own (wid p W))) (hj : fj ρ g = .ok (.int z) g) (hz : z = (m : Int)) (hm : m < p) (hv : fv ρ g = .ok (.int v) g) :
    sSetIx i (eBin opAdd (eIxA i fj) fv) fj ρ g = .nx (ρ.set i (.own (wid p fun k => if k = m then W m + v else W k))) g :=
  set_row h (by rw [eBin_ap, ixa_row h hj hz hm, bind_ok, hv, bind_ok, opAdd_int]) hj hz hm
theorem tail_row2 {p : Nat} {P x : Int} (hP : P = (p : Int)) (hp : 3 ≤ p) (hp2 : p ≤ 1000) : (opMulT (.tuple [.int 0]) (.int (P - 2)) g).bind (fun y g => opAdd (.tuple [.int x]) y g) = .ok (rowD p (whR x)) g := by
  obtain ⟨e1, e2⟩ := tail_row (g := g) (x := x) hP hp hp2
  rw [e1, bind_ok, e2]
end
section
variable {x0 x1 x2 x3 x4 x5 x6 x7 x8 x9 x10 x11 x12 x13 x14 x15 x16 x17 x18 x19 x20 x21 x22 x23 x24 x25 x26 x27 : SV} {g : G} {p q : Nat} {P Q : Int}
theorem t2 (hp : p ∈ P7) (hP : P = (p : Int)) : ∃ W g', S_law_2 [x0, .d tokD, .d (.int P), .d (.int Q), x4, x5, x6, x7, x8, x9, x10, x11, x12, x13, x14, x15, x16, x17, x18, x19, x20, x21, x22, x23, x24, x25, x26, x27] g = .nx [x0, .d tokD, .d (.int P), .d (.int Q), x4, .d (.list (wid p W)), x6, x7, x8, x9, x10, x11, x12, x13, x14, x15, x16, x17, x18, x19, x20, x21, x22, x23, x24, x25, x26, x27] g' := by
  obtain ⟨hp3, hp19⟩ := p7_b p hp
  obtain ⟨W, g', e, _⟩ := draws (vs := [4]) (fi := iRan1 (aCons (eV 2) aNil)) (b := bName 4) (fe := eBin opSub (eCall m_take (aCons (eV 1) (aCons (eC (.int 11)) aNil))) (eC (.int 5))) (ρ := [x0, .d tokD, .d (.int P), .d (.int Q), x4, x5, x6, x7, x8, x9, x10, x11, x12, x13, x14, x15, x16, x17, x18, x19, x20, x21, x22, x23, x24, x25, x26, x27]) (g := g) (n := p) (by
    have e := ran1_int (j := P) (g := g) (by omega) (by omega)
    rw [show P.toNat = p by omega] at e
    simp (disch := omega) only [e, eV_ap, eC_ap, eBin_ap, eNeg_ap, tVal_ap, eIsN_ap, eNotN_ap, eChain_ap, tAndF_ap, tOrF_ap, tNotF_ap, tTru_ap, eAnd_ap, eOr_ap, eNot_ap, eIf_ap, aNil_ap, aCons_ap, eTup_ap, eLst_ap, oNone_ap, oSome_ap, eSl_ap, eCall_ap, iLst_ap, iTpl_ap, iRan2_apN, eOf_ap, oLst_ap, oCat_ap, oRep_ap, oSl_ap, oList_ap, oComp_ap, tYesF_ap, sNil_ap, sSeq_th, sBrk_ap, sCnt_ap, sExpr_ap, sRet_ap, sRetN_ap, sIf_ap, sSet_ap, sSetO_ap, sAsg_ap, sPar_ap, sPar3_ap, sAug_ap, sApp_ap, sExt_ap, sSetIx_ap, sFrz_ap, eIxO_ap, eLenO_ap, eIxA_ap, eLenA_ap, vOf_ap, vCons_ap, vOwn_ap, vOwn2_ap, sTup_ap, iSeq_ap, sRaise_ap, sTry_ap, eExF_ap, tIfF_ap, eRev_ap, eRevA_ap, eRevF_ap, th_nx, th_rt, th_bk, th_ct, th_exc, bind_ok, bind_exc, go_ok, go_exc, opAdd_int, opSub_int, opMul_a, opMul_b, opDiv_pos, opDiv_wide, opMod_pos, opI_int, opEq_int, opNe_int, opEq_bool, opNe_bool, atI_0, atI_1, atI_2, atI_3, opIx_list, opIx_tuple, iRan1_ap, bLen_list, bLen_tuple, bInt_int, bAbs_int, bName, bNil, bCons, bTup, List.getElem?_cons_zero, List.getElem?_cons_succ, List.set_cons_zero, List.set_cons_succ, List.length_cons, List.length_nil, noTok, if_true, if_false, decide_true, decide_false, Bool.not_true, Bool.not_false, setAll, List.map_cons, List.map_nil, truD, Bool.true_eq_false, Bool.false_eq_true, Option.bind_some, true_and, and_true, List.replicate, startR, List.cons_append, List.nil_append, Nat.sub_self, reduceIte, ↓reduceIte, isNon, LIM_eq, and_self, List.map_append, List.length_map, Int.toNat_natCast, Nat.zero_le, Nat.reduceLeDiff, Int.reduceNeg, Int.reduceLE, Int.reduceLT, Int.zero_add, ran2_int, noEx, eq_self, dI, dP, dPs]) (by omega) (fun x => ⟨[x0, .d tokD, .d (.int P), .d (.int Q), .d x, x5, x6, x7, x8, x9, x10, x11, x12, x13, x14, x15, x16, x17, x18, x19, x20, x21, x22, x23, x24, x25, x26, x27], rfl, fun g => by
      obtain ⟨v, g', e, v0, v1⟩ := take_ok 11 g (by decide)
      refine ⟨v - 5, g', by simp (disch := omega) only [e, eV_ap, eC_ap, eBin_ap, eNeg_ap, tVal_ap, eIsN_ap, eNotN_ap, eChain_ap, tAndF_ap, tOrF_ap, tNotF_ap, tTru_ap, eAnd_ap, eOr_ap, eNot_ap, eIf_ap, aNil_ap, aCons_ap, eTup_ap, eLst_ap, oNone_ap, oSome_ap, eSl_ap, eCall_ap, iLst_ap, iTpl_ap, iRan2_apN, eOf_ap, oLst_ap, oCat_ap, oRep_ap, oSl_ap, oList_ap, oComp_ap, tYesF_ap, sNil_ap, sSeq_th, sBrk_ap, sCnt_ap, sExpr_ap, sRet_ap, sRetN_ap, sIf_ap, sSet_ap, sSetO_ap, sAsg_ap, sPar_ap, sPar3_ap, sAug_ap, sApp_ap, sExt_ap, sSetIx_ap, sFrz_ap, eIxO_ap, eLenO_ap, eIxA_ap, eLenA_ap, vOf_ap, vCons_ap, vOwn_ap, vOwn2_ap, sTup_ap, iSeq_ap, sRaise_ap, sTry_ap, eExF_ap, tIfF_ap, eRev_ap, eRevA_ap, eRevF_ap, th_nx, th_rt, th_bk, th_ct, th_exc, bind_ok, bind_exc, go_ok, go_exc, opAdd_int, opSub_int, opMul_a, opMul_b, opDiv_pos, opDiv_wide, opMod_pos, opI_int, opEq_int, opNe_int, opEq_bool, opNe_bool, atI_0, atI_1, atI_2, atI_3, opIx_list, opIx_tuple, iRan1_ap, bLen_list, bLen_tuple, bInt_int, bAbs_int, bName, bNil, bCons, bTup, List.getElem?_cons_zero, List.getElem?_cons_succ, List.set_cons_zero, List.set_cons_succ, List.length_cons, List.length_nil, noTok, if_true, if_false, decide_true, decide_false, Bool.not_true, Bool.not_false, setAll, List.map_cons, List.map_nil, truD, Bool.true_eq_false, Bool.false_eq_true, Option.bind_some, true_and, and_true, List.replicate, startR, List.cons_append, List.nil_append, Nat.sub_self, reduceIte, ↓reduceIte, isNon, LIM_eq, and_self, List.map_append, List.length_map, Int.toNat_natCast, Nat.zero_le, Nat.reduceLeDiff, Int.reduceNeg, Int.reduceLE, Int.reduceLT, Int.zero_add, ran1_int, ran2_int, noEx, eq_self, dI, dP, dPs], ?_⟩
      unfold bd
      omega⟩)
  refine ⟨W, g', ?_⟩
  show ((C_law_1 [x0, .d tokD, .d (.int P), .d (.int Q), x4, x5, x6, x7, x8, x9, x10, x11, x12, x13, x14, x15, x16, x17, x18, x19, x20, x21, x22, x23, x24, x25, x26, x27] g).bind _).go _ _ = _
  rw [show C_law_1 = oComp [4] (iRan1 (aCons (eV 2) aNil)) (bName 4) tYesF (eBin opSub (eCall m_take (aCons (eV 1) (aCons (eC (.int 11)) aNil))) (eC (.int 5))) from rfl, e, bind_ok, go_ok]
  rfl
theorem t3 (hp : p ∈ P7) (hP : P = (p : Int)) : ∃ r s g', bR 3 p r ∧ bR 3 p s ∧ S_law_3 [x0, .d tokD, .d (.int P), .d (.int Q), x4, x5, x6, x7, x8, x9, x10, x11, x12, x13, x14, x15, x16, x17, x18, x19, x20, x21, x22, x23, x24, x25, x26, x27] g = .nx [x0, .d tokD, .d (.int P), .d (.int Q), x4, x5, .d (rowD p r), .d (rowD p s), x8, x9, x10, x11, x12, x13, x14, x15, x16, x17, x18, x19, x20, x21, x22, x23, x24, x25, x26, x27] g' := by
  obtain ⟨hp3, hp19⟩ := p7_b p hp
  have d := fun g : G => draws (vs := [4]) (fi := iRan1 (aCons (eBin opSub (eV 2) (eC (.int 1))) aNil)) (b := bName 4) (fe := eBin opSub (eCall m_take (aCons (eV 1) (aCons (eC (.int 11)) aNil))) (eC (.int 5))) (ρ := [x0, .d tokD, .d (.int P), .d (.int Q), x4, x5, x6, x7, x8, x9, x10, x11, x12, x13, x14, x15, x16, x17, x18, x19, x20, x21, x22, x23, x24, x25, x26, x27]) (g := g) (n := p - 1) (by
    have e := ran1_int (j := P - 1) (g := g) (by omega) (by omega)
    rw [show (P - 1).toNat = p - 1 by omega] at e
    simp (disch := omega) only [e, eV_ap, eC_ap, eBin_ap, eNeg_ap, tVal_ap, eIsN_ap, eNotN_ap, eChain_ap, tAndF_ap, tOrF_ap, tNotF_ap, tTru_ap, eAnd_ap, eOr_ap, eNot_ap, eIf_ap, aNil_ap, aCons_ap, eTup_ap, eLst_ap, oNone_ap, oSome_ap, eSl_ap, eCall_ap, iLst_ap, iTpl_ap, iRan2_apN, eOf_ap, oLst_ap, oCat_ap, oRep_ap, oSl_ap, oList_ap, oComp_ap, tYesF_ap, sNil_ap, sSeq_th, sBrk_ap, sCnt_ap, sExpr_ap, sRet_ap, sRetN_ap, sIf_ap, sSet_ap, sSetO_ap, sAsg_ap, sPar_ap, sPar3_ap, sAug_ap, sApp_ap, sExt_ap, sSetIx_ap, sFrz_ap, eIxO_ap, eLenO_ap, eIxA_ap, eLenA_ap, vOf_ap, vCons_ap, vOwn_ap, vOwn2_ap, sTup_ap, iSeq_ap, sRaise_ap, sTry_ap, eExF_ap, tIfF_ap, eRev_ap, eRevA_ap, eRevF_ap, th_nx, th_rt, th_bk, th_ct, th_exc, bind_ok, bind_exc, go_ok, go_exc, opAdd_int, opSub_int, opMul_a, opMul_b, opDiv_pos, opDiv_wide, opMod_pos, opI_int, opEq_int, opNe_int, opEq_bool, opNe_bool, atI_0, atI_1, atI_2, atI_3, opIx_list, opIx_tuple, iRan1_ap, bLen_list, bLen_tuple, bInt_int, bAbs_int, bName, bNil, bCons, bTup, List.getElem?_cons_zero, List.getElem?_cons_succ, List.set_cons_zero, List.set_cons_succ, List.length_cons, List.length_nil, noTok, if_true, if_false, decide_true, decide_false, Bool.not_true, Bool.not_false, setAll, List.map_cons, List.map_nil, truD, Bool.true_eq_false, Bool.false_eq_true, Option.bind_some, true_and, and_true, List.replicate, startR, List.cons_append, List.nil_append, Nat.sub_self, reduceIte, ↓reduceIte, isNon, LIM_eq, and_self, List.map_append, List.length_map, Int.toNat_natCast, Nat.zero_le, Nat.reduceLeDiff, Int.reduceNeg, Int.reduceLE, Int.reduceLT, Int.zero_add, ran2_int, noEx, eq_self, dI, dP, dPs]) (by omega) (fun x => ⟨[x0, .d tokD, .d (.int P), .d (.int Q), .d x, x5, x6, x7, x8, x9, x10, x11, x12, x13, x14, x15, x16, x17, x18, x19, x20, x21, x22, x23, x24, x25, x26, x27], rfl, fun g => by
      obtain ⟨v, g', e, v0, v1⟩ := take_ok 11 g (by decide)
      refine ⟨v - 5, g', by simp (disch := omega) only [e, eV_ap, eC_ap, eBin_ap, eNeg_ap, tVal_ap, eIsN_ap, eNotN_ap, eChain_ap, tAndF_ap, tOrF_ap, tNotF_ap, tTru_ap, eAnd_ap, eOr_ap, eNot_ap, eIf_ap, aNil_ap, aCons_ap, eTup_ap, eLst_ap, oNone_ap, oSome_ap, eSl_ap, eCall_ap, iLst_ap, iTpl_ap, iRan2_apN, eOf_ap, oLst_ap, oCat_ap, oRep_ap, oSl_ap, oList_ap, oComp_ap, tYesF_ap, sNil_ap, sSeq_th, sBrk_ap, sCnt_ap, sExpr_ap, sRet_ap, sRetN_ap, sIf_ap, sSet_ap, sSetO_ap, sAsg_ap, sPar_ap, sPar3_ap, sAug_ap, sApp_ap, sExt_ap, sSetIx_ap, sFrz_ap, eIxO_ap, eLenO_ap, eIxA_ap, eLenA_ap, vOf_ap, vCons_ap, vOwn_ap, vOwn2_ap, sTup_ap, iSeq_ap, sRaise_ap, sTry_ap, eExF_ap, tIfF_ap, eRev_ap, eRevA_ap, eRevF_ap, th_nx, th_rt, th_bk, th_ct, th_exc, bind_ok, bind_exc, go_ok, go_exc, opAdd_int, opSub_int, opMul_a, opMul_b, opDiv_pos, opDiv_wide, opMod_pos, opI_int, opEq_int, opNe_int, opEq_bool, opNe_bool, atI_0, atI_1, atI_2, atI_3, opIx_list, opIx_tuple, iRan1_ap, bLen_list, bLen_tuple, bInt_int, bAbs_int, bName, bNil, bCons, bTup, List.getElem?_cons_zero, List.getElem?_cons_succ, List.set_cons_zero, List.set_cons_succ, List.length_cons, List.length_nil, noTok, if_true, if_false, decide_true, decide_false, Bool.not_true, Bool.not_false, setAll, List.map_cons, List.map_nil, truD, Bool.true_eq_false, Bool.false_eq_true, Option.bind_some, true_and, and_true, List.replicate, startR, List.cons_append, List.nil_append, Nat.sub_self, reduceIte, ↓reduceIte, isNon, LIM_eq, and_self, List.map_append, List.length_map, Int.toNat_natCast, Nat.zero_le, Nat.reduceLeDiff, Int.reduceNeg, Int.reduceLE, Int.reduceLT, Int.zero_add, ran1_int, ran2_int, noEx, eq_self, dI, dP, dPs], ?_⟩
      unfold bd
      omega⟩)
  obtain ⟨r, g1, e1, b1⟩ := d g
  obtain ⟨s, g2, e2, b2⟩ := d g1
  refine ⟨r, s, g2, fun k _ => b1 k, fun k _ => b2 k, ?_⟩
  have c1 : eOf C_law_3 [x0, .d tokD, .d (.int P), .d (.int Q), x4, x5, x6, x7, x8, x9, x10, x11, x12, x13, x14, x15, x16, x17, x18, x19, x20, x21, x22, x23, x24, x25, x26, x27] g = .ok (.list (wid (p - 1) r)) g1 := by
    show (C_law_3 [x0, .d tokD, .d (.int P), .d (.int Q), x4, x5, x6, x7, x8, x9, x10, x11, x12, x13, x14, x15, x16, x17, x18, x19, x20, x21, x22, x23, x24, x25, x26, x27] g).bind _ = _
    rw [show C_law_3 = oComp [4] (iRan1 (aCons (eBin opSub (eV 2) (eC (.int 1))) aNil)) (bName 4) tYesF (eBin opSub (eCall m_take (aCons (eV 1) (aCons (eC (.int 11)) aNil))) (eC (.int 5))) from rfl, e1, bind_ok]
  have c2 : eOf C_law_2 [x0, .d tokD, .d (.int P), .d (.int Q), x4, x5, x6, x7, x8, x9, x10, x11, x12, x13, x14, x15, x16, x17, x18, x19, x20, x21, x22, x23, x24, x25, x26, x27] g1 = .ok (.list (wid (p - 1) s)) g2 := by
    show (C_law_2 [x0, .d tokD, .d (.int P), .d (.int Q), x4, x5, x6, x7, x8, x9, x10, x11, x12, x13, x14, x15, x16, x17, x18, x19, x20, x21, x22, x23, x24, x25, x26, x27] g1).bind _ = _
    rw [show C_law_2 = oComp [4] (iRan1 (aCons (eBin opSub (eV 2) (eC (.int 1))) aNil)) (bName 4) tYesF (eBin opSub (eCall m_take (aCons (eV 1) (aCons (eC (.int 11)) aNil))) (eC (.int 5))) from rfl, e2, bind_ok]
  have f1 : bTuple [.list (wid (p - 1) r)] g1 = .ok (rowD p r) g1 := rfl
  have f2 : bTuple [.list (wid (p - 1) s)] g2 = .ok (rowD p s) g2 := rfl
  generalize rowD p r = R1 at *
  generalize rowD p s = R2 at *
  generalize wid (p - 1) r = L1 at *
  generalize wid (p - 1) s = L2 at *
  simp (disch := omega) only [S_law_3, c1, c2, f1, f2, eV_ap, eC_ap, eBin_ap, eNeg_ap, tVal_ap, eIsN_ap, eNotN_ap, eChain_ap, tAndF_ap, tOrF_ap, tNotF_ap, tTru_ap, eAnd_ap, eOr_ap, eNot_ap, eIf_ap, aNil_ap, aCons_ap, eTup_ap, eLst_ap, oNone_ap, oSome_ap, eSl_ap, eCall_ap, iLst_ap, iTpl_ap, iRan2_apN, oLst_ap, oCat_ap, oRep_ap, oSl_ap, oList_ap, oComp_ap, tYesF_ap, sNil_ap, sSeq_th, sBrk_ap, sCnt_ap, sExpr_ap, sRet_ap, sRetN_ap, sIf_ap, sSet_ap, sSetO_ap, sAsg_ap, sPar_ap, sPar3_ap, sAug_ap, sApp_ap, sExt_ap, sSetIx_ap, sFrz_ap, eIxO_ap, eLenO_ap, eIxA_ap, eLenA_ap, vOf_ap, vCons_ap, vOwn_ap, vOwn2_ap, sTup_ap, iSeq_ap, sRaise_ap, sTry_ap, eExF_ap, tIfF_ap, eRev_ap, eRevA_ap, eRevF_ap, th_nx, th_rt, th_bk, th_ct, th_exc, bind_ok, bind_exc, go_ok, go_exc, opAdd_int, opSub_int, opMul_a, opMul_b, opDiv_pos, opDiv_wide, opMod_pos, opI_int, opEq_int, opNe_int, opEq_bool, opNe_bool, atI_0, atI_1, atI_2, atI_3, opIx_list, opIx_tuple, iRan1_ap, bLen_list, bLen_tuple, bInt_int, bAbs_int, bName, bNil, bCons, bTup, List.getElem?_cons_zero, List.getElem?_cons_succ, List.set_cons_zero, List.set_cons_succ, List.length_cons, List.length_nil, noTok, if_true, if_false, decide_true, decide_false, Bool.not_true, Bool.not_false, setAll, List.map_cons, List.map_nil, truD, Bool.true_eq_false, Bool.false_eq_true, Option.bind_some, true_and, and_true, List.replicate, startR, List.cons_append, List.nil_append, Nat.sub_self, reduceIte, ↓reduceIte, isNon, LIM_eq, and_self, List.map_append, List.length_map, Int.toNat_natCast, Nat.zero_le, Nat.reduceLeDiff, Int.reduceNeg, Int.reduceLE, Int.reduceLT, Int.zero_add, ran1_int, ran2_int, noEx, eq_self, dI, dP, dPs]
theorem t4 {W r s : Nat → Int} (hp : p ∈ P7) (hP : P = (p : Int)) : S_law_4 [x0, .d tokD, .d (.int P), .d (.int Q), x4, .d (.list (wid p W)), .d (rowD p r), .d (rowD p s), x8, x9, x10, x11, x12, x13, x14, x15, x16, x17, x18, x19, x20, x21, x22, x23, x24, x25, x26, x27] g = .nx [x0, .d tokD, .d (.int P), .d (.int Q), x4, .d (.list (wid p W)), .d (rowD p r), .d (rowD p s), x8, x9, x10, x11, x12, x13, x14, x15, x16, x17, x18, x19, x20, x21, x22, x23, x24, x25, x26, x27] g := by
  obtain ⟨hp3, hp19⟩ := p7_b p hp
  have h1 := m_settled_eq (g := g) (p := p) (W := W) (by omega) (by omega)
  have h2 := m__law_settled_eq (g := g) (p := p) (W := W) (by omega) (by omega)
  have n1 := ne_row (g := g) (p := p) (r := fun k => W k - W (p - 1)) (s := fun k => W k - W (p - 1)) fun _ _ => rfl
  have h3 := m_settled_eq (g := g) (p := p) (W := fun _ => 3) (by omega) (by omega)
  have h4 := mul_const (g := g) (c := 3) hP (by omega)
  have h5 := zeros_row (g := g) hP hp3 (by omega)
  have n2 := ne_row (g := g) (p := p) (r := fun k => (fun _ : Nat => (3 : Int)) k - (fun _ : Nat => (3 : Int)) (p - 1)) (s := fun _ => 0) fun _ _ => rfl
  have h6 := m_plus_eq (g := g) (p := p) (r := r) (s := s) (by omega)
  have n3 := ne_row (g := g) (p := p) (r := fun k => r k + s k) (s := fun k => r k + s k) fun _ _ => rfl
  have bl : ∀ L : List D, bList [.list L] g = .ok (.list L) g := fun _ => rfl
  have hC : eOf C_law_4 [x0, .d tokD, .d (.int P), .d (.int Q), x4, .d (.list (wid p W)), .d (rowD p r), .d (rowD p s), x8, x9, x10, x11, x12, x13, x14, x15, x16, x17, x18, x19, x20, x21, x22, x23, x24, x25, x26, x27] g = .ok (.list (wid (p - 1) fun k => r k + s k)) g := by
    have := comp_all (vs := [4]) (fi := iRan1 (aCons (eBin opSub (eV 2) (eC (.int 1))) aNil)) (b := bName 4) (fe := eBin opAdd (eBin opIx (eV 6) (eV 4)) (eBin opIx (eV 7) (eV 4))) (ρ := [x0, .d tokD, .d (.int P), .d (.int Q), x4, .d (.list (wid p W)), .d (rowD p r), .d (rowD p s), x8, x9, x10, x11, x12, x13, x14, x15, x16, x17, x18, x19, x20, x21, x22, x23, x24, x25, x26, x27]) (g := g) (lo := 0) (n := p - 1) (fun x => .int (r x.toNat + s x.toNat)) (by
      have e := ran1_int (j := P - 1) (g := g) (by omega) (by omega)
      rw [show (P - 1).toNat = p - 1 by omega] at e
      generalize rowD p r = R1 at *
      generalize rowD p s = R2 at *
      generalize wid p W = L at *
      simp (disch := omega) only [e, eV_ap, eC_ap, eBin_ap, eNeg_ap, tVal_ap, eIsN_ap, eNotN_ap, eChain_ap, tAndF_ap, tOrF_ap, tNotF_ap, tTru_ap, eAnd_ap, eOr_ap, eNot_ap, eIf_ap, aNil_ap, aCons_ap, eTup_ap, eLst_ap, oNone_ap, oSome_ap, eSl_ap, eCall_ap, iLst_ap, iTpl_ap, iRan2_apN, eOf_ap, oLst_ap, oCat_ap, oRep_ap, oSl_ap, oList_ap, oComp_ap, tYesF_ap, sNil_ap, sSeq_th, sBrk_ap, sCnt_ap, sExpr_ap, sRet_ap, sRetN_ap, sIf_ap, sSet_ap, sSetO_ap, sAsg_ap, sPar_ap, sPar3_ap, sAug_ap, sApp_ap, sExt_ap, sSetIx_ap, sFrz_ap, eIxO_ap, eLenO_ap, eIxA_ap, eLenA_ap, vOf_ap, vCons_ap, vOwn_ap, vOwn2_ap, sTup_ap, iSeq_ap, sRaise_ap, sTry_ap, eExF_ap, tIfF_ap, eRev_ap, eRevA_ap, eRevF_ap, th_nx, th_rt, th_bk, th_ct, th_exc, bind_ok, bind_exc, go_ok, go_exc, opAdd_int, opSub_int, opMul_a, opMul_b, opDiv_pos, opDiv_wide, opMod_pos, opI_int, opEq_int, opNe_int, opEq_bool, opNe_bool, atI_0, atI_1, atI_2, atI_3, opIx_list, opIx_tuple, iRan1_ap, bLen_list, bLen_tuple, bInt_int, bAbs_int, bName, bNil, bCons, bTup, List.getElem?_cons_zero, List.getElem?_cons_succ, List.set_cons_zero, List.set_cons_succ, List.length_cons, List.length_nil, noTok, if_true, if_false, decide_true, decide_false, Bool.not_true, Bool.not_false, setAll, List.map_cons, List.map_nil, truD, Bool.true_eq_false, Bool.false_eq_true, Option.bind_some, true_and, and_true, List.replicate, startR, List.cons_append, List.nil_append, Nat.sub_self, reduceIte, ↓reduceIte, isNon, LIM_eq, and_self, List.map_append, List.length_map, Int.toNat_natCast, Nat.zero_le, Nat.reduceLeDiff, Int.reduceNeg, Int.reduceLE, Int.reduceLT, Int.zero_add, ran2_int, noEx, eq_self, dI, dP, dPs]) (by omega) (fun x q0 q1 => by
      refine ⟨[x0, .d tokD, .d (.int P), .d (.int Q), .d (.int x), .d (.list (wid p W)), .d (rowD p r), .d (rowD p s), x8, x9, x10, x11, x12, x13, x14, x15, x16, x17, x18, x19, x20, x21, x22, x23, x24, x25, x26, x27], rfl, ?_, rfl⟩
      have i1 : atI (wid (p - 1) r) x = some (.int (r x.toNat)) := atI_wid (by omega) (by omega)
      have i2 : atI (wid (p - 1) s) x = some (.int (s x.toNat)) := atI_wid (by omega) (by omega)
      change (eBin opAdd (eBin opIx (eV 6) (eV 4)) (eBin opIx (eV 7) (eV 4))) [x0, .d tokD, .d (.int P), .d (.int Q), .d (.int x), .d (.list (wid p W)), .d (.tuple (wid (p - 1) r)), .d (.tuple (wid (p - 1) s)), x8, x9, x10, x11, x12, x13, x14, x15, x16, x17, x18, x19, x20, x21, x22, x23, x24, x25, x26, x27] g = _
      generalize wid (p - 1) r = R1 at *
      generalize wid (p - 1) s = R2 at *
      generalize wid p W = L at *
      simp (disch := omega) only [i1, i2, eV_ap, eC_ap, eBin_ap, eNeg_ap, tVal_ap, eIsN_ap, eNotN_ap, eChain_ap, tAndF_ap, tOrF_ap, tNotF_ap, tTru_ap, eAnd_ap, eOr_ap, eNot_ap, eIf_ap, aNil_ap, aCons_ap, eTup_ap, eLst_ap, oNone_ap, oSome_ap, eSl_ap, eCall_ap, iLst_ap, iTpl_ap, iRan2_apN, eOf_ap, oLst_ap, oCat_ap, oRep_ap, oSl_ap, oList_ap, oComp_ap, tYesF_ap, sNil_ap, sSeq_th, sBrk_ap, sCnt_ap, sExpr_ap, sRet_ap, sRetN_ap, sIf_ap, sSet_ap, sSetO_ap, sAsg_ap, sPar_ap, sPar3_ap, sAug_ap, sApp_ap, sExt_ap, sSetIx_ap, sFrz_ap, eIxO_ap, eLenO_ap, eIxA_ap, eLenA_ap, vOf_ap, vCons_ap, vOwn_ap, vOwn2_ap, sTup_ap, iSeq_ap, sRaise_ap, sTry_ap, eExF_ap, tIfF_ap, eRev_ap, eRevA_ap, eRevF_ap, th_nx, th_rt, th_bk, th_ct, th_exc, bind_ok, bind_exc, go_ok, go_exc, opAdd_int, opSub_int, opMul_a, opMul_b, opDiv_pos, opDiv_wide, opMod_pos, opI_int, opEq_int, opNe_int, opEq_bool, opNe_bool, atI_0, atI_1, atI_2, atI_3, opIx_list, opIx_tuple, iRan1_ap, bLen_list, bLen_tuple, bInt_int, bAbs_int, bName, bNil, bCons, bTup, List.getElem?_cons_zero, List.getElem?_cons_succ, List.set_cons_zero, List.set_cons_succ, List.length_cons, List.length_nil, noTok, if_true, if_false, decide_true, decide_false, Bool.not_true, Bool.not_false, setAll, List.map_cons, List.map_nil, truD, Bool.true_eq_false, Bool.false_eq_true, Option.bind_some, true_and, and_true, List.replicate, startR, List.cons_append, List.nil_append, Nat.sub_self, reduceIte, ↓reduceIte, isNon, LIM_eq, and_self, List.map_append, List.length_map, Int.toNat_natCast, Nat.zero_le, Nat.reduceLeDiff, Int.reduceNeg, Int.reduceLE, Int.reduceLT, Int.zero_add, ran1_int, ran2_int, noEx, eq_self, dI, dP, dPs])
    show (C_law_4 _ g).bind _ = _
    rw [show C_law_4 = oComp [4] (iRan1 (aCons (eBin opSub (eV 2) (eC (.int 1))) aNil)) (bName 4) tYesF (eBin opAdd (eBin opIx (eV 6) (eV 4)) (eBin opIx (eV 7) (eV 4))) from rfl, this, bind_ok]
    have e : (irg 0 (p - 1)).map (fun x => PyData.int (r x.toNat + s x.toNat)) = wid (p - 1) fun k => r k + s k := wid_ext (by rw [List.length_map, irg_len]) fun i hi => by
      rw [List.getElem?_map, irg_get hi, Int.zero_add]
      rfl
    rw [e]
  have ft : bTuple [.list (wid (p - 1) fun k => r k + s k)] g = .ok (rowD p fun k => r k + s k) g := rfl
  generalize rowD p (fun k => r k + s k) = R3 at *
  generalize rowD p (fun k => W k - W (p - 1)) = R4 at *
  generalize rowD p (fun k => (fun _ : Nat => (3 : Int)) k - (fun _ : Nat => (3 : Int)) (p - 1)) = R5 at *
  generalize rowD p (fun _ => 0) = R6 at *
  generalize wid (p - 1) (fun k => r k + s k) = L3 at *
  generalize wid p (fun _ => (3 : Int)) = L4 at *
  generalize rowD p r = R1 at *
  generalize rowD p s = R2 at *
  generalize wid p W = L at *
  simp (disch := omega) only [S_law_4, h1, h2, n1, h3, h4, h5, n2, h6, n3, bl, hC, ft, eV_ap, eC_ap, eBin_ap, eNeg_ap, tVal_ap, eIsN_ap, eNotN_ap, eChain_ap, tAndF_ap, tOrF_ap, tNotF_ap, tTru_ap, eAnd_ap, eOr_ap, eNot_ap, eIf_ap, aNil_ap, aCons_ap, eTup_ap, eLst_ap, oNone_ap, oSome_ap, eSl_ap, eCall_ap, iLst_ap, iTpl_ap, iRan2_apN, oLst_ap, oCat_ap, oRep_ap, oSl_ap, oList_ap, oComp_ap, tYesF_ap, sNil_ap, sSeq_th, sBrk_ap, sCnt_ap, sExpr_ap, sRet_ap, sRetN_ap, sIf_ap, sSet_ap, sSetO_ap, sAsg_ap, sPar_ap, sPar3_ap, sAug_ap, sApp_ap, sExt_ap, sSetIx_ap, sFrz_ap, eIxO_ap, eLenO_ap, eIxA_ap, eLenA_ap, vOf_ap, vCons_ap, vOwn_ap, vOwn2_ap, sTup_ap, iSeq_ap, sRaise_ap, sTry_ap, eExF_ap, tIfF_ap, eRev_ap, eRevA_ap, eRevF_ap, th_nx, th_rt, th_bk, th_ct, th_exc, bind_ok, bind_exc, go_ok, go_exc, opAdd_int, opSub_int, opMul_a, opMul_b, opDiv_pos, opDiv_wide, opMod_pos, opI_int, opEq_int, opNe_int, opEq_bool, opNe_bool, atI_0, atI_1, atI_2, atI_3, opIx_list, opIx_tuple, iRan1_ap, bLen_list, bLen_tuple, bInt_int, bAbs_int, bName, bNil, bCons, bTup, List.getElem?_cons_zero, List.getElem?_cons_succ, List.set_cons_zero, List.set_cons_succ, List.length_cons, List.length_nil, noTok, if_true, if_false, decide_true, decide_false, Bool.not_true, Bool.not_false, setAll, List.map_cons, List.map_nil, truD, Bool.true_eq_false, Bool.false_eq_true, Option.bind_some, true_and, and_true, List.replicate, startR, List.cons_append, List.nil_append, Nat.sub_self, reduceIte, ↓reduceIte, isNon, LIM_eq, and_self, List.map_append, List.length_map, Int.toNat_natCast, Nat.zero_le, Nat.reduceLeDiff, Int.reduceNeg, Int.reduceLE, Int.reduceLT, Int.zero_add, ran1_int, ran2_int, noEx, eq_self, dI, dP, dPs]
theorem t6 {r s : Nat → Int} (hp : p ∈ P7) (hP : P = (p : Int)) (hr : bR 3 p r) (hs : bR 3 p s) : S_law_6 [x0, .d tokD, .d (.int P), .d (.int Q), x4, x5, .d (rowD p r), .d (rowD p s), x8, x9, x10, x11, x12, x13, x14, x15, x16, x17, x18, x19, x20, x21, x22, x23, x24, x25, x26, x27] g = .nx [x0, .d tokD, .d (.int P), .d (.int Q), x4, x5, .d (rowD p r), .d (rowD p s), x8, x9, x10, x11, x12, x13, x14, x15, x16, x17, x18, x19, x20, x21, x22, x23, x24, x25, x26, x27] g := by
  obtain ⟨hp3, hp19⟩ := p7_b p hp
  have h1 := m_times_eq (g := g) (p := p) (by omega) (by omega) hr hs (by omega)
  have h2 := m__law_times_eq (g := g) (p := p) (by omega) (by omega) hr hs (by omega)
  have n1 := ne_row (g := g) (p := p) (r := mulR p r s) (s := mulR p r s) fun _ _ => rfl
  have h3 := m_whole_eq (g := g) (x := 4) hP hp3 (by omega)
  obtain ⟨e1, e2⟩ := tail_row (g := g) (x := 4) hP hp3 (by omega)
  have n2 := ne_row (g := g) (p := p) (r := whR 4) (s := whR 4) fun _ _ => rfl
  generalize rowD p (whR 4) = R4 at *
  generalize rowD p (mulR p r s) = R3 at *
  generalize rowD p r = R1 at *
  generalize rowD p s = R2 at *
  generalize wid (p - 2) (fun _ => 0) = L at *
  simp (disch := omega) only [S_law_6, h1, h2, n1, h3, e1, e2, n2, eV_ap, eC_ap, eBin_ap, eNeg_ap, tVal_ap, eIsN_ap, eNotN_ap, eChain_ap, tAndF_ap, tOrF_ap, tNotF_ap, tTru_ap, eAnd_ap, eOr_ap, eNot_ap, eIf_ap, aNil_ap, aCons_ap, eTup_ap, eLst_ap, oNone_ap, oSome_ap, eSl_ap, eCall_ap, iLst_ap, iTpl_ap, iRan2_apN, eOf_ap, oLst_ap, oCat_ap, oRep_ap, oSl_ap, oList_ap, oComp_ap, tYesF_ap, sNil_ap, sSeq_th, sBrk_ap, sCnt_ap, sExpr_ap, sRet_ap, sRetN_ap, sIf_ap, sSet_ap, sSetO_ap, sAsg_ap, sPar_ap, sPar3_ap, sAug_ap, sApp_ap, sExt_ap, sSetIx_ap, sFrz_ap, eIxO_ap, eLenO_ap, eIxA_ap, eLenA_ap, vOf_ap, vCons_ap, vOwn_ap, vOwn2_ap, sTup_ap, iSeq_ap, sRaise_ap, sTry_ap, eExF_ap, tIfF_ap, eRev_ap, eRevA_ap, eRevF_ap, th_nx, th_rt, th_bk, th_ct, th_exc, bind_ok, bind_exc, go_ok, go_exc, opAdd_int, opSub_int, opMul_a, opMul_b, opDiv_pos, opDiv_wide, opMod_pos, opI_int, opEq_int, opNe_int, opEq_bool, opNe_bool, atI_0, atI_1, atI_2, atI_3, opIx_list, opIx_tuple, iRan1_ap, bLen_list, bLen_tuple, bInt_int, bAbs_int, bName, bNil, bCons, bTup, List.getElem?_cons_zero, List.getElem?_cons_succ, List.set_cons_zero, List.set_cons_succ, List.length_cons, List.length_nil, noTok, if_true, if_false, decide_true, decide_false, Bool.not_true, Bool.not_false, setAll, List.map_cons, List.map_nil, truD, Bool.true_eq_false, Bool.false_eq_true, Option.bind_some, true_and, and_true, List.replicate, startR, List.cons_append, List.nil_append, Nat.sub_self, reduceIte, ↓reduceIte, isNon, LIM_eq, and_self, List.map_append, List.length_map, Int.toNat_natCast, Nat.zero_le, Nat.reduceLeDiff, Int.reduceNeg, Int.reduceLE, Int.reduceLT, Int.zero_add, ran1_int, ran2_int, noEx, eq_self, dI, dP, dPs]
theorem t8 (hp : p ∈ P7) (hP : P = (p : Int)) : ∃ (t : Nat) (T : Int) (g' : G), t ≤ 4 ∧ T = (t : Int) ∧ S_law_8 [x0, .d tokD, .d (.int P), .d (.int Q), x4, x5, x6, x7, x8, x9, x10, x11, x12, x13, x14, x15, x16, x17, x18, x19, x20, x21, x22, x23, x24, x25, x26, x27] g = .nx [x0, .d tokD, .d (.int P), .d (.int Q), x4, x5, x6, x7, .d (.int T), .d (rowD p (pwR p r 0)), x10, x11, x12, x13, x14, x15, x16, x17, x18, x19, x20, x21, x22, x23, x24, x25, x26, x27] g' := by
  obtain ⟨hp3, hp19⟩ := p7_b p hp
  obtain ⟨v, g', e, v0, v1⟩ := take_ok 5 g (by decide)
  refine ⟨v.toNat, v, g', by omega, by omega, ?_⟩
  obtain ⟨e1, e2⟩ := tail_row (g := g') (x := 1) hP hp3 (by omega)
  rw [rowD_congr (s := pwR p r 0) fun k hk => whR_one (by omega) hk] at e2
  generalize rowD p (pwR p r 0) = R1 at *
  generalize wid (p - 2) (fun _ => 0) = L at *
  simp (disch := omega) only [S_law_8, e, e1, e2, eV_ap, eC_ap, eBin_ap, eNeg_ap, tVal_ap, eIsN_ap, eNotN_ap, eChain_ap, tAndF_ap, tOrF_ap, tNotF_ap, tTru_ap, eAnd_ap, eOr_ap, eNot_ap, eIf_ap, aNil_ap, aCons_ap, eTup_ap, eLst_ap, oNone_ap, oSome_ap, eSl_ap, eCall_ap, iLst_ap, iTpl_ap, iRan2_apN, eOf_ap, oLst_ap, oCat_ap, oRep_ap, oSl_ap, oList_ap, oComp_ap, tYesF_ap, sNil_ap, sSeq_th, sBrk_ap, sCnt_ap, sExpr_ap, sRet_ap, sRetN_ap, sIf_ap, sSet_ap, sSetO_ap, sAsg_ap, sPar_ap, sPar3_ap, sAug_ap, sApp_ap, sExt_ap, sSetIx_ap, sFrz_ap, eIxO_ap, eLenO_ap, eIxA_ap, eLenA_ap, vOf_ap, vCons_ap, vOwn_ap, vOwn2_ap, sTup_ap, iSeq_ap, sRaise_ap, sTry_ap, eExF_ap, tIfF_ap, eRev_ap, eRevA_ap, eRevF_ap, th_nx, th_rt, th_bk, th_ct, th_exc, bind_ok, bind_exc, go_ok, go_exc, opAdd_int, opSub_int, opMul_a, opMul_b, opDiv_pos, opDiv_wide, opMod_pos, opI_int, opEq_int, opNe_int, opEq_bool, opNe_bool, atI_0, atI_1, atI_2, atI_3, opIx_list, opIx_tuple, iRan1_ap, bLen_list, bLen_tuple, bInt_int, bAbs_int, bName, bNil, bCons, bTup, List.getElem?_cons_zero, List.getElem?_cons_succ, List.set_cons_zero, List.set_cons_succ, List.length_cons, List.length_nil, noTok, if_true, if_false, decide_true, decide_false, Bool.not_true, Bool.not_false, setAll, List.map_cons, List.map_nil, truD, Bool.true_eq_false, Bool.false_eq_true, Option.bind_some, true_and, and_true, List.replicate, startR, List.cons_append, List.nil_append, Nat.sub_self, reduceIte, ↓reduceIte, isNon, LIM_eq, and_self, List.map_append, List.length_map, Int.toNat_natCast, Nat.zero_le, Nat.reduceLeDiff, Int.reduceNeg, Int.reduceLE, Int.reduceLT, Int.zero_add, ran1_int, ran2_int, noEx, eq_self, dI, dP, dPs]
theorem t9 {t : Nat} {T : Int} {r : Nat → Int} (hp : p ∈ P7) (hP : P = (p : Int)) (hr : bR 3 p r) (hT : T = (t : Int)) (ht : t ≤ 4) : ∃ y : SV, S_law_9 [x0, .d tokD, .d (.int P), .d (.int Q), x4, x5, .d (rowD p r), x7, .d (.int T), .d (rowD p (pwR p r 0)), x10, x11, x12, x13, x14, x15, x16, x17, x18, x19, x20, x21, x22, x23, x24, x25, x26, x27] g = .nx [x0, .d tokD, .d (.int P), .d (.int Q), x4, x5, .d (rowD p r), x7, .d (.int T), .d (rowD p (pwR p r t)), y, x11, x12, x13, x14, x15, x16, x17, x18, x19, x20, x21, x22, x23, x24, x25, x26, x27] g := by
  obtain ⟨hp3, hp19⟩ := p7_b p hp
  obtain ⟨ρ1, g1, ⟨rfl, y, rfl⟩, hw⟩ := sFor_run (fi := iRan1 (aCons (eV 8) aNil)) (b := bName 10) (f := B_law_9) (items := upTo 0 t) (ρ := [x0, .d tokD, .d (.int P), .d (.int Q), x4, x5, .d (rowD p r), x7, .d (.int T), .d (rowD p (pwR p r 0)), x10, x11, x12, x13, x14, x15, x16, x17, x18, x19, x20, x21, x22, x23, x24, x25, x26, x27]) (g := g) (g1 := g)
    (fun i ρ g' => g' = g ∧ ∃ y : SV, ρ = [x0, .d tokD, .d (.int P), .d (.int Q), x4, x5, .d (rowD p r), x7, .d (.int T), .d (rowD p (pwR p r i)), y, x11, x12, x13, x14, x15, x16, x17, x18, x19, x20, x21, x22, x23, x24, x25, x26, x27]) (by
      have e := ran1_int (j := T) (g := g) (by omega) (by omega)
      rw [show T.toNat = t by omega] at e
      generalize rowD p r = R1 at *
      generalize rowD p (pwR p r 0) = R2 at *
      simp (disch := omega) only [e, eV_ap, eC_ap, eBin_ap, eNeg_ap, tVal_ap, eIsN_ap, eNotN_ap, eChain_ap, tAndF_ap, tOrF_ap, tNotF_ap, tTru_ap, eAnd_ap, eOr_ap, eNot_ap, eIf_ap, aNil_ap, aCons_ap, eTup_ap, eLst_ap, oNone_ap, oSome_ap, eSl_ap, eCall_ap, iLst_ap, iTpl_ap, iRan2_apN, eOf_ap, oLst_ap, oCat_ap, oRep_ap, oSl_ap, oList_ap, oComp_ap, tYesF_ap, sNil_ap, sSeq_th, sBrk_ap, sCnt_ap, sExpr_ap, sRet_ap, sRetN_ap, sIf_ap, sSet_ap, sSetO_ap, sAsg_ap, sPar_ap, sPar3_ap, sAug_ap, sApp_ap, sExt_ap, sSetIx_ap, sFrz_ap, eIxO_ap, eLenO_ap, eIxA_ap, eLenA_ap, vOf_ap, vCons_ap, vOwn_ap, vOwn2_ap, sTup_ap, iSeq_ap, sRaise_ap, sTry_ap, eExF_ap, tIfF_ap, eRev_ap, eRevA_ap, eRevF_ap, th_nx, th_rt, th_bk, th_ct, th_exc, bind_ok, bind_exc, go_ok, go_exc, opAdd_int, opSub_int, opMul_a, opMul_b, opDiv_pos, opDiv_wide, opMod_pos, opI_int, opEq_int, opNe_int, opEq_bool, opNe_bool, atI_0, atI_1, atI_2, atI_3, opIx_list, opIx_tuple, iRan1_ap, bLen_list, bLen_tuple, bInt_int, bAbs_int, bName, bNil, bCons, bTup, List.getElem?_cons_zero, List.getElem?_cons_succ, List.set_cons_zero, List.set_cons_succ, List.length_cons, List.length_nil, noTok, if_true, if_false, decide_true, decide_false, Bool.not_true, Bool.not_false, setAll, List.map_cons, List.map_nil, truD, Bool.true_eq_false, Bool.false_eq_true, Option.bind_some, true_and, and_true, List.replicate, startR, List.cons_append, List.nil_append, Nat.sub_self, reduceIte, ↓reduceIte, isNon, LIM_eq, and_self, List.map_append, List.length_map, Int.toNat_natCast, Nat.zero_le, Nat.reduceLeDiff, Int.reduceNeg, Int.reduceLE, Int.reduceLT, Int.zero_add, ran2_int, noEx, eq_self, dI, dP, dPs]) ⟨rfl, x10, rfl⟩ (by
      rintro i hi ρ g' ⟨rfl, y, rfl⟩
      rw [upTo_len] at hi
      refine ⟨[x0, .d tokD, .d (.int P), .d (.int Q), x4, x5, .d (rowD p r), x7, .d (.int T), .d (rowD p (pwR p r i)), .d (upTo 0 t)[i], x11, x12, x13, x14, x15, x16, x17, x18, x19, x20, x21, x22, x23, x24, x25, x26, x27], [x0, .d tokD, .d (.int P), .d (.int Q), x4, x5, .d (rowD p r), x7, .d (.int T), .d (rowD p (pwR p r (i + 1))), .d (upTo 0 t)[i], x11, x12, x13, x14, x15, x16, x17, x18, x19, x20, x21, x22, x23, x24, x25, x26, x27], g', rfl, .inl ?_, rfl, _, rfl⟩
      have h := m__law_times_eq (g := g') (p := p) (r := pwR p r i) (s := r) (by omega) (by omega) (bR.pw (by omega) hr i) hr (by
        have : i * (3 + 10) ≤ 4 * 13 := Nat.mul_le_mul_right _ (by omega)
        omega)
      change m__law_times [rowD p (pwR p r i), rowD p r] g' = .ok (rowD p (pwR p r (i + 1))) g' at h
      generalize (upTo 0 t)[i] = Y at *
      generalize rowD p (pwR p r (i + 1)) = R3 at *
      generalize rowD p (pwR p r i) = R2 at *
      generalize rowD p r = R1 at *
      simp (disch := omega) only [B_law_9, S_law_10, h, eV_ap, eC_ap, eBin_ap, eNeg_ap, tVal_ap, eIsN_ap, eNotN_ap, eChain_ap, tAndF_ap, tOrF_ap, tNotF_ap, tTru_ap, eAnd_ap, eOr_ap, eNot_ap, eIf_ap, aNil_ap, aCons_ap, eTup_ap, eLst_ap, oNone_ap, oSome_ap, eSl_ap, eCall_ap, iLst_ap, iTpl_ap, iRan2_apN, eOf_ap, oLst_ap, oCat_ap, oRep_ap, oSl_ap, oList_ap, oComp_ap, tYesF_ap, sNil_ap, sSeq_th, sBrk_ap, sCnt_ap, sExpr_ap, sRet_ap, sRetN_ap, sIf_ap, sSet_ap, sSetO_ap, sAsg_ap, sPar_ap, sPar3_ap, sAug_ap, sApp_ap, sExt_ap, sSetIx_ap, sFrz_ap, eIxO_ap, eLenO_ap, eIxA_ap, eLenA_ap, vOf_ap, vCons_ap, vOwn_ap, vOwn2_ap, sTup_ap, iSeq_ap, sRaise_ap, sTry_ap, eExF_ap, tIfF_ap, eRev_ap, eRevA_ap, eRevF_ap, th_nx, th_rt, th_bk, th_ct, th_exc, bind_ok, bind_exc, go_ok, go_exc, opAdd_int, opSub_int, opMul_a, opMul_b, opDiv_pos, opDiv_wide, opMod_pos, opI_int, opEq_int, opNe_int, opEq_bool, opNe_bool, atI_0, atI_1, atI_2, atI_3, opIx_list, opIx_tuple, iRan1_ap, bLen_list, bLen_tuple, bInt_int, bAbs_int, bName, bNil, bCons, bTup, List.getElem?_cons_zero, List.getElem?_cons_succ, List.set_cons_zero, List.set_cons_succ, List.length_cons, List.length_nil, noTok, if_true, if_false, decide_true, decide_false, Bool.not_true, Bool.not_false, setAll, List.map_cons, List.map_nil, truD, Bool.true_eq_false, Bool.false_eq_true, Option.bind_some, true_and, and_true, List.replicate, startR, List.cons_append, List.nil_append, Nat.sub_self, reduceIte, ↓reduceIte, isNon, LIM_eq, and_self, List.map_append, List.length_map, Int.toNat_natCast, Nat.zero_le, Nat.reduceLeDiff, Int.reduceNeg, Int.reduceLE, Int.reduceLT, Int.zero_add, ran1_int, ran2_int, noEx, eq_self, dI, dP, dPs])
  rw [upTo_len] at hw
  exact ⟨y, hw⟩
theorem t11 {t : Nat} {T : Int} {r : Nat → Int} (hp : p ∈ P7) (hr : bR 3 p r) (hT : T = (t : Int)) (ht : t ≤ 4) : S_law_11 [x0, .d tokD, .d (.int P), .d (.int Q), x4, x5, .d (rowD p r), x7, .d (.int T), .d (rowD p (pwR p r t)), x10, x11, x12, x13, x14, x15, x16, x17, x18, x19, x20, x21, x22, x23, x24, x25, x26, x27] g = .nx [x0, .d tokD, .d (.int P), .d (.int Q), x4, x5, .d (rowD p r), x7, .d (.int T), .d (rowD p (pwR p r t)), x10, x11, x12, x13, x14, x15, x16, x17, x18, x19, x20, x21, x22, x23, x24, x25, x26, x27] g := by
  obtain ⟨hp3, hp19⟩ := p7_b p hp
  have h := m_power_eq (g := g) (K := t) hp3 (by omega) hr (by omega) (by
    have : 13 * (t + 1) ≤ 13 * 5 := Nat.mul_le_mul_left _ (by omega)
    omega)
  rw [← hT] at h
  have n := ne_row (g := g) (p := p) (r := pwR p r t) (s := pwR p r t) fun _ _ => rfl
  generalize rowD p (pwR p r t) = R2 at *
  generalize rowD p r = R1 at *
  simp (disch := omega) only [S_law_11, h, n, eV_ap, eC_ap, eBin_ap, eNeg_ap, tVal_ap, eIsN_ap, eNotN_ap, eChain_ap, tAndF_ap, tOrF_ap, tNotF_ap, tTru_ap, eAnd_ap, eOr_ap, eNot_ap, eIf_ap, aNil_ap, aCons_ap, eTup_ap, eLst_ap, oNone_ap, oSome_ap, eSl_ap, eCall_ap, iLst_ap, iTpl_ap, iRan2_apN, eOf_ap, oLst_ap, oCat_ap, oRep_ap, oSl_ap, oList_ap, oComp_ap, tYesF_ap, sNil_ap, sSeq_th, sBrk_ap, sCnt_ap, sExpr_ap, sRet_ap, sRetN_ap, sIf_ap, sSet_ap, sSetO_ap, sAsg_ap, sPar_ap, sPar3_ap, sAug_ap, sApp_ap, sExt_ap, sSetIx_ap, sFrz_ap, eIxO_ap, eLenO_ap, eIxA_ap, eLenA_ap, vOf_ap, vCons_ap, vOwn_ap, vOwn2_ap, sTup_ap, iSeq_ap, sRaise_ap, sTry_ap, eExF_ap, tIfF_ap, eRev_ap, eRevA_ap, eRevF_ap, th_nx, th_rt, th_bk, th_ct, th_exc, bind_ok, bind_exc, go_ok, go_exc, opAdd_int, opSub_int, opMul_a, opMul_b, opDiv_pos, opDiv_wide, opMod_pos, opI_int, opEq_int, opNe_int, opEq_bool, opNe_bool, atI_0, atI_1, atI_2, atI_3, opIx_list, opIx_tuple, iRan1_ap, bLen_list, bLen_tuple, bInt_int, bAbs_int, bName, bNil, bCons, bTup, List.getElem?_cons_zero, List.getElem?_cons_succ, List.set_cons_zero, List.set_cons_succ, List.length_cons, List.length_nil, noTok, if_true, if_false, decide_true, decide_false, Bool.not_true, Bool.not_false, setAll, List.map_cons, List.map_nil, truD, Bool.true_eq_false, Bool.false_eq_true, Option.bind_some, true_and, and_true, List.replicate, startR, List.cons_append, List.nil_append, Nat.sub_self, reduceIte, ↓reduceIte, isNon, LIM_eq, and_self, List.map_append, List.length_map, Int.toNat_natCast, Nat.zero_le, Nat.reduceLeDiff, Int.reduceNeg, Int.reduceLE, Int.reduceLT, Int.zero_add, ran1_int, ran2_int, noEx, eq_self, dI, dP, dPs]
theorem t13 : ∃ (a : Int) (g' : G), -20 ≤ a ∧ a ≤ 39 ∧ S_law_13 [x0, .d tokD, .d (.int P), .d (.int Q), x4, x5, x6, x7, x8, x9, x10, x11, x12, x13, x14, x15, x16, x17, x18, x19, x20, x21, x22, x23, x24, x25, x26, x27] g = .nx [x0, .d tokD, .d (.int P), .d (.int Q), x4, x5, x6, x7, x8, x9, x10, .d (.int a), x12, x13, x14, x15, x16, x17, x18, x19, x20, x21, x22, x23, x24, x25, x26, x27] g' := by
  obtain ⟨v, g', e, v0, v1⟩ := take_ok 60 g (by decide)
  exact ⟨v - 20, g', by omega, by omega, by simp (disch := omega) only [S_law_13, e, eV_ap, eC_ap, eBin_ap, eNeg_ap, tVal_ap, eIsN_ap, eNotN_ap, eChain_ap, tAndF_ap, tOrF_ap, tNotF_ap, tTru_ap, eAnd_ap, eOr_ap, eNot_ap, eIf_ap, aNil_ap, aCons_ap, eTup_ap, eLst_ap, oNone_ap, oSome_ap, eSl_ap, eCall_ap, iLst_ap, iTpl_ap, iRan2_apN, eOf_ap, oLst_ap, oCat_ap, oRep_ap, oSl_ap, oList_ap, oComp_ap, tYesF_ap, sNil_ap, sSeq_th, sBrk_ap, sCnt_ap, sExpr_ap, sRet_ap, sRetN_ap, sIf_ap, sSet_ap, sSetO_ap, sAsg_ap, sPar_ap, sPar3_ap, sAug_ap, sApp_ap, sExt_ap, sSetIx_ap, sFrz_ap, eIxO_ap, eLenO_ap, eIxA_ap, eLenA_ap, vOf_ap, vCons_ap, vOwn_ap, vOwn2_ap, sTup_ap, iSeq_ap, sRaise_ap, sTry_ap, eExF_ap, tIfF_ap, eRev_ap, eRevA_ap, eRevF_ap, th_nx, th_rt, th_bk, th_ct, th_exc, bind_ok, bind_exc, go_ok, go_exc, opAdd_int, opSub_int, opMul_a, opMul_b, opDiv_pos, opDiv_wide, opMod_pos, opI_int, opEq_int, opNe_int, opEq_bool, opNe_bool, atI_0, atI_1, atI_2, atI_3, opIx_list, opIx_tuple, iRan1_ap, bLen_list, bLen_tuple, bInt_int, bAbs_int, bName, bNil, bCons, bTup, List.getElem?_cons_zero, List.getElem?_cons_succ, List.set_cons_zero, List.set_cons_succ, List.length_cons, List.length_nil, noTok, if_true, if_false, decide_true, decide_false, Bool.not_true, Bool.not_false, setAll, List.map_cons, List.map_nil, truD, Bool.true_eq_false, Bool.false_eq_true, Option.bind_some, true_and, and_true, List.replicate, startR, List.cons_append, List.nil_append, Nat.sub_self, reduceIte, ↓reduceIte, isNon, LIM_eq, and_self, List.map_append, List.length_map, Int.toNat_natCast, Nat.zero_le, Nat.reduceLeDiff, Int.reduceNeg, Int.reduceLE, Int.reduceLT, Int.zero_add, ran1_int, ran2_int, noEx, eq_self, dI, dP, dPs]⟩
theorem t14 (hp : p ∈ P7) (hP : P = (p : Int)) : S_law_14 [x0, .d tokD, .d (.int P), .d (.int Q), x4, x5, x6, x7, x8, x9, x10, x11, x12, x13, x14, x15, x16, x17, x18, x19, x20, x21, x22, x23, x24, x25, x26, x27] g = .nx [x0, .d tokD, .d (.int P), .d (.int Q), x4, x5, x6, x7, x8, x9, x10, x11, .own (wid p fun _ => 0), x13, x14, x15, x16, x17, x18, x19, x20, x21, x22, x23, x24, x25, x26, x27] g := by
  obtain ⟨hp3, hp19⟩ := p7_b p hp
  show ((oRep (eLst (aCons (eC (.int 0)) aNil)) (eV 2)) _ g).go _ _ = _
  rw [rep_zero (p := p) hP (by omega) rfl, go_ok]
  rfl
theorem t19 (hp : p ∈ P7) (hP : P = (p : Int)) : S_law_19 [x0, .d tokD, .d (.int P), .d (.int Q), x4, x5, x6, x7, x8, x9, x10, x11, x12, x13, x14, x15, x16, x17, x18, x19, x20, x21, x22, x23, x24, x25, x26, x27] g = .nx [x0, .d tokD, .d (.int P), .d (.int Q), x4, x5, x6, x7, x8, x9, x10, x11, .own (wid p fun _ => 0), x13, x14, x15, x16, x17, x18, x19, x20, x21, x22, x23, x24, x25, x26, x27] g := t14 hp hP
theorem t15 {A : Nat} {a : Int} (hp : p ∈ P7) (hP : P = (p : Int)) (ha : a % P = (A : Int)) : S_law_15 [x0, .d tokD, .d (.int P), .d (.int Q), x4, x5, x6, x7, x8, x9, x10, .d (.int a), .own (wid p fun _ => 0), x13, x14, x15, x16, x17, x18, x19, x20, x21, x22, x23, x24, x25, x26, x27] g = .nx [x0, .d tokD, .d (.int P), .d (.int Q), x4, x5, x6, x7, x8, x9, x10, .d (.int a), .own (wid p (one1 A)), x13, x14, x15, x16, x17, x18, x19, x20, x21, x22, x23, x24, x25, x26, x27] g := by
  obtain ⟨hp3, hp19⟩ := p7_b p hp
  have hA : A < p := by
    have := Int.emod_lt_of_pos a (show 0 < P by omega)
    omega
  have hmod : opMod (.int a) (.int P) g = .ok (.int (a % P)) g := opMod_pos (by omega)
  refine Eq.trans (set_row (p := p) (W := fun _ => 0) (m := A) (v := 1) (z := a % P) rfl rfl ?_ ha hA) rfl
  generalize (wid p fun _ => 0) = L at *
  simp (disch := omega) only [hmod, eV_ap, eC_ap, eBin_ap, eNeg_ap, tVal_ap, eIsN_ap, eNotN_ap, eChain_ap, tAndF_ap, tOrF_ap, tNotF_ap, tTru_ap, eAnd_ap, eOr_ap, eNot_ap, eIf_ap, aNil_ap, aCons_ap, eTup_ap, eLst_ap, oNone_ap, oSome_ap, eSl_ap, eCall_ap, iLst_ap, iTpl_ap, iRan2_apN, eOf_ap, oLst_ap, oCat_ap, oRep_ap, oSl_ap, oList_ap, oComp_ap, tYesF_ap, sNil_ap, sSeq_th, sBrk_ap, sCnt_ap, sExpr_ap, sRet_ap, sRetN_ap, sIf_ap, sSet_ap, sSetO_ap, sAsg_ap, sPar_ap, sPar3_ap, sAug_ap, sApp_ap, sExt_ap, sSetIx_ap, sFrz_ap, eIxO_ap, eLenO_ap, eIxA_ap, eLenA_ap, vOf_ap, vCons_ap, vOwn_ap, vOwn2_ap, sTup_ap, iSeq_ap, sRaise_ap, sTry_ap, eExF_ap, tIfF_ap, eRev_ap, eRevA_ap, eRevF_ap, th_nx, th_rt, th_bk, th_ct, th_exc, bind_ok, bind_exc, go_ok, go_exc, opAdd_int, opSub_int, opMul_a, opMul_b, opDiv_pos, opDiv_wide, opI_int, opEq_int, opNe_int, opEq_bool, opNe_bool, atI_0, atI_1, atI_2, atI_3, opIx_list, opIx_tuple, iRan1_ap, bLen_list, bLen_tuple, bInt_int, bAbs_int, bName, bNil, bCons, bTup, List.getElem?_cons_zero, List.getElem?_cons_succ, List.set_cons_zero, List.set_cons_succ, List.length_cons, List.length_nil, noTok, if_true, if_false, decide_true, decide_false, Bool.not_true, Bool.not_false, setAll, List.map_cons, List.map_nil, truD, Bool.true_eq_false, Bool.false_eq_true, Option.bind_some, true_and, and_true, List.replicate, startR, List.cons_append, List.nil_append, Nat.sub_self, reduceIte, ↓reduceIte, isNon, LIM_eq, and_self, List.map_append, List.length_map, Int.toNat_natCast, Nat.zero_le, Nat.reduceLeDiff, Int.reduceNeg, Int.reduceLE, Int.reduceLT, Int.zero_add, ran1_int, ran2_int, noEx, eq_self, dI, dP, dPs]
theorem t16 {A : Nat} {a : Int} (hp : p ∈ P7) (hP : P = (p : Int)) (ha : a % P = (A : Int)) : S_law_16 [x0, .d tokD, .d (.int P), .d (.int Q), x4, x5, x6, x7, x8, x9, x10, .d (.int a), .d (.list (wid p (one1 A))), x13, x14, x15, x16, x17, x18, x19, x20, x21, x22, x23, x24, x25, x26, x27] g = .nx [x0, .d tokD, .d (.int P), .d (.int Q), x4, x5, x6, x7, x8, x9, x10, .d (.int a), .d (.list (wid p (one1 A))), x13, x14, x15, x16, x17, x18, x19, x20, x21, x22, x23, x24, x25, x26, x27] g := by
  obtain ⟨hp3, hp19⟩ := p7_b p hp
  have hA : A < p := by
    have := Int.emod_lt_of_pos a (show 0 < P by omega)
    omega
  obtain ⟨B, hB⟩ : ∃ B : Nat, (0 - a) % P = (B : Int) := ⟨((0 - a) % P).toNat, by have := Int.emod_nonneg (0 - a) (show P ≠ 0 by omega); omega⟩
  have hAB : (A + B) % p = 0 := by
    have e : ((A : Int) + (B : Int)) % P = 0 := by
      rw [← ha, ← hB, ← Int.add_emod, show a + (0 - a) = 0 by omega, Int.zero_emod]
    rw [hP, ← Int.natCast_add, mod_nat] at e
    omega
  have h1 := m_root_power_eq (g := g) hP (by omega) (by omega) ha
  have h2 := m__law_settled_eq (g := g) (p := p) (W := one1 A) (by omega) (by omega)
  rw [rowD_congr fun k _ => one1_rt hA] at h2
  have n1 := ne_row (g := g) (p := p) (r := rt p A) (s := rt p A) fun _ _ => rfl
  have h3 := m_root_power_eq (g := g) hP (by omega) (by omega) hB
  have h4 := m__law_times_eq (g := g) (p := p) (r := rt p A) (s := rt p B) (n := 1) (m := 1) (by omega) (by omega) bR.rt bR.rt (by omega)
  obtain ⟨e1, e2⟩ := tail_row (g := g) (x := 1) hP hp3 (by omega)
  have n2 := ne_row (g := g) (p := p) (r := mulR p (rt p A) (rt p B)) (s := whR 1) fun k hk => by
    rw [mul_rt_rt (by omega) (by omega), whR_one (by omega) hk]
    exact rt_congr (by rw [hAB, Nat.zero_mod])
  generalize rowD p (mulR p (rt p A) (rt p B)) = R3 at *
  generalize rowD p (rt p A) = R1 at *
  generalize rowD p (rt p B) = R2 at *
  generalize rowD p (whR 1) = R4 at *
  generalize wid (p - 2) (fun _ => 0) = L at *
  generalize wid p (one1 A) = L2 at *
  simp (disch := omega) only [S_law_16, h1, h2, n1, h3, h4, e1, e2, n2, eV_ap, eC_ap, eBin_ap, eNeg_ap, tVal_ap, eIsN_ap, eNotN_ap, eChain_ap, tAndF_ap, tOrF_ap, tNotF_ap, tTru_ap, eAnd_ap, eOr_ap, eNot_ap, eIf_ap, aNil_ap, aCons_ap, eTup_ap, eLst_ap, oNone_ap, oSome_ap, eSl_ap, eCall_ap, iLst_ap, iTpl_ap, iRan2_apN, eOf_ap, oLst_ap, oCat_ap, oRep_ap, oSl_ap, oList_ap, oComp_ap, tYesF_ap, sNil_ap, sSeq_th, sBrk_ap, sCnt_ap, sExpr_ap, sRet_ap, sRetN_ap, sIf_ap, sSet_ap, sSetO_ap, sAsg_ap, sPar_ap, sPar3_ap, sAug_ap, sApp_ap, sExt_ap, sSetIx_ap, sFrz_ap, eIxO_ap, eLenO_ap, eIxA_ap, eLenA_ap, vOf_ap, vCons_ap, vOwn_ap, vOwn2_ap, sTup_ap, iSeq_ap, sRaise_ap, sTry_ap, eExF_ap, tIfF_ap, eRev_ap, eRevA_ap, eRevF_ap, th_nx, th_rt, th_bk, th_ct, th_exc, bind_ok, bind_exc, go_ok, go_exc, opAdd_int, opSub_int, opMul_a, opMul_b, opDiv_pos, opDiv_wide, opMod_pos, opI_int, opEq_int, opNe_int, opEq_bool, opNe_bool, atI_0, atI_1, atI_2, atI_3, opIx_list, opIx_tuple, iRan1_ap, bLen_list, bLen_tuple, bInt_int, bAbs_int, bName, bNil, bCons, bTup, List.getElem?_cons_zero, List.getElem?_cons_succ, List.set_cons_zero, List.set_cons_succ, List.length_cons, List.length_nil, noTok, if_true, if_false, decide_true, decide_false, Bool.not_true, Bool.not_false, setAll, List.map_cons, List.map_nil, truD, Bool.true_eq_false, Bool.false_eq_true, Option.bind_some, true_and, and_true, List.replicate, startR, List.cons_append, List.nil_append, Nat.sub_self, reduceIte, ↓reduceIte, isNon, LIM_eq, and_self, List.map_append, List.length_map, Int.toNat_natCast, Nat.zero_le, Nat.reduceLeDiff, Int.reduceNeg, Int.reduceLE, Int.reduceLT, Int.zero_add, ran1_int, ran2_int, noEx, eq_self, dI, dP, dPs]
end
end K19
namespace K19
open PySem
open PySem.Spec
open PyProof.Rows
open L2
open DL
theorem maxL0 : ∀ (l : List Int) (m : Int), 0 ≤ m → (∀ x ∈ l, 0 ≤ x) → (maxL m l = 0 ↔ m = 0 ∧ ∀ x ∈ l, x = 0)
  | [], m, _, _ => ⟨fun h => ⟨h, fun x hx => nomatch hx⟩, fun h => h.1⟩
  | y :: l, m, hm, hl => by
    have hy := hl y List.mem_cons_self
    have ih := maxL0 l (if y > m then y else m) (by split <;> omega) fun x hx => hl x (List.mem_cons_of_mem _ hx)
    show maxL (if y > m then y else m) l = 0 ↔ _
    rw [ih, List.forall_mem_cons]
    constructor
    · rintro ⟨h1, h2⟩
      split at h1
      · exact ⟨by omega, by omega, h2⟩
      · exact ⟨by omega, by omega, h2⟩
    · rintro ⟨h1, h2, h3⟩
      exact ⟨by split <;> omega, h3⟩
theorem wh_all {p : Nat} {x : Int} : ((List.range (p - 2)).map fun k => decide (whR x (k + 1) = 0)).all id = true := by
  rw [List.all_eq_true]
  intro y hy
  obtain ⟨k, _, rfl⟩ := List.mem_map.mp hy
  rfl
def totR (p : Nat) (r : Nat → Int) (i : Nat) : Nat → Int := fun k => sm i fun b => movR p r (b + 1) k
def accL (p A i : Nat) : Nat → Int := fun k => sm i fun j => J p j * ind (j * A % p = k)
theorem accL_gs {p A k : Nat} : accL p A p k - accL p A p (p - 1) = gs p A k := by
  unfold accL gs comb
  rw [← sm_sub]
  refine sm_congr fun a _ => ?_
  unfold rt
  rw [Int.mul_sub]
section
variable {x0 x1 x2 x3 x4 x5 x6 x7 x8 x9 x10 x11 x12 x13 x14 x15 x16 x17 x18 x19 x20 x21 x22 x23 x24 x25 x26 x27 : SV} {g : G} {p q : Nat} {P Q : Int}
theorem t18 (hp : p ∈ P7) (hP : P = (p : Int)) : ∃ (b : Nat) (B : Int) (g' : G), 1 ≤ b ∧ b < p ∧ B = (b : Int) ∧ S_law_18 [x0, .d tokD, .d (.int P), .d (.int Q), x4, x5, x6, x7, x8, x9, x10, x11, x12, x13, x14, x15, x16, x17, x18, x19, x20, x21, x22, x23, x24, x25, x26, x27] g = .nx [x0, .d tokD, .d (.int P), .d (.int Q), x4, x5, x6, x7, x8, x9, x10, x11, x12, .d (.int B), x14, x15, x16, x17, x18, x19, x20, x21, x22, x23, x24, x25, x26, x27] g' := by
  obtain ⟨hp3, hp19⟩ := p7_b p hp
  obtain ⟨v, g', e, v0, v1⟩ := take_ok (P - 1) g (by omega)
  exact ⟨v.toNat + 1, 1 + v, g', by omega, by omega, by omega, by simp (disch := omega) only [S_law_18, e, eV_ap, eC_ap, eBin_ap, eNeg_ap, tVal_ap, eIsN_ap, eNotN_ap, eChain_ap, tAndF_ap, tOrF_ap, tNotF_ap, tTru_ap, eAnd_ap, eOr_ap, eNot_ap, eIf_ap, aNil_ap, aCons_ap, eTup_ap, eLst_ap, oNone_ap, oSome_ap, eSl_ap, eCall_ap, iLst_ap, iTpl_ap, iRan2_apN, eOf_ap, oLst_ap, oCat_ap, oRep_ap, oSl_ap, oList_ap, oComp_ap, tYesF_ap, sNil_ap, sSeq_th, sBrk_ap, sCnt_ap, sExpr_ap, sRet_ap, sRetN_ap, sIf_ap, sSet_ap, sSetO_ap, sAsg_ap, sPar_ap, sPar3_ap, sAug_ap, sApp_ap, sExt_ap, sSetIx_ap, sFrz_ap, eIxO_ap, eLenO_ap, eIxA_ap, eLenA_ap, vOf_ap, vCons_ap, vOwn_ap, vOwn2_ap, sTup_ap, iSeq_ap, sRaise_ap, sTry_ap, eExF_ap, tIfF_ap, eRev_ap, eRevA_ap, eRevF_ap, th_nx, th_rt, th_bk, th_ct, th_exc, bind_ok, bind_exc, go_ok, go_exc, opAdd_int, opSub_int, opMul_a, opMul_b, opDiv_pos, opDiv_wide, opMod_pos, opI_int, opEq_int, opNe_int, opEq_bool, opNe_bool, atI_0, atI_1, atI_2, atI_3, opIx_list, opIx_tuple, iRan1_ap, bLen_list, bLen_tuple, bInt_int, bAbs_int, bName, bNil, bCons, bTup, List.getElem?_cons_zero, List.getElem?_cons_succ, List.set_cons_zero, List.set_cons_succ, List.length_cons, List.length_nil, noTok, if_true, if_false, decide_true, decide_false, Bool.not_true, Bool.not_false, setAll, List.map_cons, List.map_nil, truD, Bool.true_eq_false, Bool.false_eq_true, Option.bind_some, true_and, and_true, List.replicate, startR, List.cons_append, List.nil_append, Nat.sub_self, reduceIte, ↓reduceIte, isNon, LIM_eq, and_self, List.map_append, List.length_map, Int.toNat_natCast, Nat.zero_le, Nat.reduceLeDiff, Int.reduceNeg, Int.reduceLE, Int.reduceLT, Int.zero_add, ran1_int, ran2_int, noEx, eq_self, dI, dP, dPs]⟩
theorem t20 {b : Nat} {B : Int} {r : Nat → Int} (hp : p ∈ P7) (hP : P = (p : Int)) (hB : B = (b : Int)) (hb : b < p) : ∃ y : SV, S_law_20 [x0, .d tokD, .d (.int P), .d (.int Q), x4, x5, .d (rowD p r), x7, x8, x9, x10, x11, .own (wid p fun _ => 0), .d (.int B), x14, x15, x16, x17, x18, x19, x20, x21, x22, x23, x24, x25, x26, x27] g = .nx [x0, .d tokD, .d (.int P), .d (.int Q), y, x5, .d (rowD p r), x7, x8, x9, x10, x11, .own (wid p (accM p r b (p - 1))), .d (.int B), x14, x15, x16, x17, x18, x19, x20, x21, x22, x23, x24, x25, x26, x27] g := by
  obtain ⟨hp3, hp19⟩ := p7_b p hp
  obtain ⟨ρ1, g1, ⟨rfl, y, rfl⟩, hw⟩ := sFor_run (fi := iRan1 (aCons (eBin opSub (eV 2) (eC (.int 1))) aNil)) (b := bName 4) (f := B_law_20) (items := upTo 0 (p - 1)) (ρ := [x0, .d tokD, .d (.int P), .d (.int Q), x4, x5, .d (rowD p r), x7, x8, x9, x10, x11, .own (wid p (accM p r b 0)), .d (.int B), x14, x15, x16, x17, x18, x19, x20, x21, x22, x23, x24, x25, x26, x27]) (g := g) (g1 := g)
    (fun i ρ g' => g' = g ∧ ∃ y : SV, ρ = [x0, .d tokD, .d (.int P), .d (.int Q), y, x5, .d (rowD p r), x7, x8, x9, x10, x11, .own (wid p (accM p r b i)), .d (.int B), x14, x15, x16, x17, x18, x19, x20, x21, x22, x23, x24, x25, x26, x27]) (by
      have e := ran1_int (j := P - 1) (g := g) (by omega) (by omega)
      rw [show (P - 1).toNat = p - 1 by omega] at e
      generalize rowD p r = R1 at *
      generalize wid p (accM p r b 0) = L at *
      simp (disch := omega) only [e, eV_ap, eC_ap, eBin_ap, eNeg_ap, tVal_ap, eIsN_ap, eNotN_ap, eChain_ap, tAndF_ap, tOrF_ap, tNotF_ap, tTru_ap, eAnd_ap, eOr_ap, eNot_ap, eIf_ap, aNil_ap, aCons_ap, eTup_ap, eLst_ap, oNone_ap, oSome_ap, eSl_ap, eCall_ap, iLst_ap, iTpl_ap, iRan2_apN, eOf_ap, oLst_ap, oCat_ap, oRep_ap, oSl_ap, oList_ap, oComp_ap, tYesF_ap, sNil_ap, sSeq_th, sBrk_ap, sCnt_ap, sExpr_ap, sRet_ap, sRetN_ap, sIf_ap, sSet_ap, sSetO_ap, sAsg_ap, sPar_ap, sPar3_ap, sAug_ap, sApp_ap, sExt_ap, sSetIx_ap, sFrz_ap, eIxO_ap, eLenO_ap, eIxA_ap, eLenA_ap, vOf_ap, vCons_ap, vOwn_ap, vOwn2_ap, sTup_ap, iSeq_ap, sRaise_ap, sTry_ap, eExF_ap, tIfF_ap, eRev_ap, eRevA_ap, eRevF_ap, th_nx, th_rt, th_bk, th_ct, th_exc, bind_ok, bind_exc, go_ok, go_exc, opAdd_int, opSub_int, opMul_a, opMul_b, opDiv_pos, opDiv_wide, opMod_pos, opI_int, opEq_int, opNe_int, opEq_bool, opNe_bool, atI_0, atI_1, atI_2, atI_3, opIx_list, opIx_tuple, iRan1_ap, bLen_list, bLen_tuple, bInt_int, bAbs_int, bName, bNil, bCons, bTup, List.getElem?_cons_zero, List.getElem?_cons_succ, List.set_cons_zero, List.set_cons_succ, List.length_cons, List.length_nil, noTok, if_true, if_false, decide_true, decide_false, Bool.not_true, Bool.not_false, setAll, List.map_cons, List.map_nil, truD, Bool.true_eq_false, Bool.false_eq_true, Option.bind_some, true_and, and_true, List.replicate, startR, List.cons_append, List.nil_append, Nat.sub_self, reduceIte, ↓reduceIte, isNon, LIM_eq, and_self, List.map_append, List.length_map, Int.toNat_natCast, Nat.zero_le, Nat.reduceLeDiff, Int.reduceNeg, Int.reduceLE, Int.reduceLT, Int.zero_add, ran2_int, noEx, eq_self, dI, dP, dPs]) ⟨rfl, x4, rfl⟩ (by
      rintro i hi ρ g' ⟨rfl, y, rfl⟩
      rw [upTo_len] at hi
      obtain ⟨I, hI⟩ : ∃ I : Int, I = (i : Int) := ⟨_, rfl⟩
      refine ⟨[x0, .d tokD, .d (.int P), .d (.int Q), .d (.int I), x5, .d (rowD p r), x7, x8, x9, x10, x11, .own (wid p (accM p r b i)), .d (.int B), x14, x15, x16, x17, x18, x19, x20, x21, x22, x23, x24, x25, x26, x27], [x0, .d tokD, .d (.int P), .d (.int Q), .d (.int I), x5, .d (rowD p r), x7, x8, x9, x10, x11, .own (wid p (accM p r b (i + 1))), .d (.int B), x14, x15, x16, x17, x18, x19, x20, x21, x22, x23, x24, x25, x26, x27], g', by
        rw [upTo_get (by rw [upTo_len]; exact hi), Int.zero_add, ← hI]
        rfl, .inl ?_, rfl, _, rfl⟩
      have hz : I * B % P = ((i * b % p : Nat) : Int) := by
        rw [hI, hB, hP, mod_cast1]
      have hml : i * b % p < p := Nat.mod_lt _ (by omega)
      have hmod : opMod (.int (I * B)) (.int P) g' = .ok (.int (I * B % P)) g' := opMod_pos (by omega)
      have hmul : opMul (.int I) (.int B) g' = .ok (.int (I * B)) g' := opMul_a (by omega) (by omega)
      have i1 : atI (wid (p - 1) r) I = some (.int (r i)) := atI_wid hI hi
      unfold B_law_20 S_law_21
      refine Eq.trans (set_add (p := p) (W := accM p r b i) (m := i * b % p) (v := r i) (z := I * B % P) rfl ?_ hz hml ?_) ?_
      · generalize rowD p r = R1 at *
        generalize wid p (accM p r b i) = L at *
        simp (disch := omega) only [hmul, hmod, eV_ap, eC_ap, eBin_ap, eNeg_ap, tVal_ap, eIsN_ap, eNotN_ap, eChain_ap, tAndF_ap, tOrF_ap, tNotF_ap, tTru_ap, eAnd_ap, eOr_ap, eNot_ap, eIf_ap, aNil_ap, aCons_ap, eTup_ap, eLst_ap, oNone_ap, oSome_ap, eSl_ap, eCall_ap, iLst_ap, iTpl_ap, iRan2_apN, eOf_ap, oLst_ap, oCat_ap, oRep_ap, oSl_ap, oList_ap, oComp_ap, tYesF_ap, sNil_ap, sSeq_th, sBrk_ap, sCnt_ap, sExpr_ap, sRet_ap, sRetN_ap, sIf_ap, sSet_ap, sSetO_ap, sAsg_ap, sPar_ap, sPar3_ap, sAug_ap, sApp_ap, sExt_ap, sSetIx_ap, sFrz_ap, eIxO_ap, eLenO_ap, eIxA_ap, eLenA_ap, vOf_ap, vCons_ap, vOwn_ap, vOwn2_ap, sTup_ap, iSeq_ap, sRaise_ap, sTry_ap, eExF_ap, tIfF_ap, eRev_ap, eRevA_ap, eRevF_ap, th_nx, th_rt, th_bk, th_ct, th_exc, bind_ok, bind_exc, go_ok, go_exc, opAdd_int, opSub_int, opDiv_pos, opDiv_wide, opI_int, opEq_int, opNe_int, opEq_bool, opNe_bool, atI_0, atI_1, atI_2, atI_3, opIx_list, opIx_tuple, iRan1_ap, bLen_list, bLen_tuple, bInt_int, bAbs_int, bName, bNil, bCons, bTup, List.getElem?_cons_zero, List.getElem?_cons_succ, List.set_cons_zero, List.set_cons_succ, List.length_cons, List.length_nil, noTok, if_true, if_false, decide_true, decide_false, Bool.not_true, Bool.not_false, setAll, List.map_cons, List.map_nil, truD, Bool.true_eq_false, Bool.false_eq_true, Option.bind_some, true_and, and_true, List.replicate, startR, List.cons_append, List.nil_append, Nat.sub_self, reduceIte, ↓reduceIte, isNon, LIM_eq, and_self, List.map_append, List.length_map, Int.toNat_natCast, Nat.zero_le, Nat.reduceLeDiff, Int.reduceNeg, Int.reduceLE, Int.reduceLT, Int.zero_add, ran1_int, ran2_int, noEx, eq_self, dI, dP, dPs]
      · change (eBin opIx (eV 6) (eV 4)) [x0, .d tokD, .d (.int P), .d (.int Q), .d (.int I), x5, .d (.tuple (wid (p - 1) r)), x7, x8, x9, x10, x11, .own (wid p (accM p r b i)), .d (.int B), x14, x15, x16, x17, x18, x19, x20, x21, x22, x23, x24, x25, x26, x27] g' = _
        generalize wid (p - 1) r = R1 at *
        generalize wid p (accM p r b i) = L at *
        simp (disch := omega) only [i1, eV_ap, eC_ap, eBin_ap, eNeg_ap, tVal_ap, eIsN_ap, eNotN_ap, eChain_ap, tAndF_ap, tOrF_ap, tNotF_ap, tTru_ap, eAnd_ap, eOr_ap, eNot_ap, eIf_ap, aNil_ap, aCons_ap, eTup_ap, eLst_ap, oNone_ap, oSome_ap, eSl_ap, eCall_ap, iLst_ap, iTpl_ap, iRan2_apN, eOf_ap, oLst_ap, oCat_ap, oRep_ap, oSl_ap, oList_ap, oComp_ap, tYesF_ap, sNil_ap, sSeq_th, sBrk_ap, sCnt_ap, sExpr_ap, sRet_ap, sRetN_ap, sIf_ap, sSet_ap, sSetO_ap, sAsg_ap, sPar_ap, sPar3_ap, sAug_ap, sApp_ap, sExt_ap, sSetIx_ap, sFrz_ap, eIxO_ap, eLenO_ap, eIxA_ap, eLenA_ap, vOf_ap, vCons_ap, vOwn_ap, vOwn2_ap, sTup_ap, iSeq_ap, sRaise_ap, sTry_ap, eExF_ap, tIfF_ap, eRev_ap, eRevA_ap, eRevF_ap, th_nx, th_rt, th_bk, th_ct, th_exc, bind_ok, bind_exc, go_ok, go_exc, opAdd_int, opSub_int, opMul_a, opMul_b, opDiv_pos, opDiv_wide, opMod_pos, opI_int, opEq_int, opNe_int, opEq_bool, opNe_bool, atI_0, atI_1, atI_2, atI_3, opIx_list, opIx_tuple, iRan1_ap, bLen_list, bLen_tuple, bInt_int, bAbs_int, bName, bNil, bCons, bTup, List.getElem?_cons_zero, List.getElem?_cons_succ, List.set_cons_zero, List.set_cons_succ, List.length_cons, List.length_nil, noTok, if_true, if_false, decide_true, decide_false, Bool.not_true, Bool.not_false, setAll, List.map_cons, List.map_nil, truD, Bool.true_eq_false, Bool.false_eq_true, Option.bind_some, true_and, and_true, List.replicate, startR, List.cons_append, List.nil_append, Nat.sub_self, reduceIte, ↓reduceIte, isNon, LIM_eq, and_self, List.map_append, List.length_map, Int.toNat_natCast, Nat.zero_le, Nat.reduceLeDiff, Int.reduceNeg, Int.reduceLE, Int.reduceLT, Int.zero_add, ran1_int, ran2_int, noEx, eq_self, dI, dP, dPs]
      · show SO.nx [x0, .d tokD, .d (.int P), .d (.int Q), .d (.int I), x5, .d (rowD p r), x7, x8, x9, x10, x11, .own (wid p fun k => if k = i * b % p then accM p r b i (i * b % p) + r i else accM p r b i k), .d (.int B), x14, x15, x16, x17, x18, x19, x20, x21, x22, x23, x24, x25, x26, x27] g' = _
        rw [accM_step])
  rw [upTo_len] at hw
  exact ⟨y, hw⟩
theorem t22 {b : Nat} {B : Int} {r s : Nat → Int} (hp : p ∈ P7) (hP : P = (p : Int)) (hr : bR 3 p r) (hs : bR 3 p s) (hB : B = (b : Int)) (hb1 : 1 ≤ b) (hb : b < p) : S_law_22 [x0, .d tokD, .d (.int P), .d (.int Q), x4, x5, .d (rowD p r), .d (rowD p s), x8, x9, x10, x11, .d (.list (wid p (accM p r b (p - 1)))), .d (.int B), x14, x15, x16, x17, x18, x19, x20, x21, x22, x23, x24, x25, x26, x27] g = .nx [x0, .d tokD, .d (.int P), .d (.int Q), x4, x5, .d (rowD p r), .d (rowD p s), x8, x9, x10, x11, .d (.list (wid p (accM p r b (p - 1)))), .d (.int B), x14, x15, x16, x17, x18, x19, x20, x21, x22, x23, x24, x25, x26, x27] g := by
  obtain ⟨hp3, hp19⟩ := p7_b p hp
  have h1 := m_moved_eq (n := 0) (g := g) (p := p) (r := r) (by omega) (by omega) hB (by omega)
  have h2 := m__law_settled_eq (g := g) (p := p) (W := accM p r b (p - 1)) (by omega) (by omega)
  rw [rowD_congr fun k _ => accM_mov] at h2
  have n1 := ne_row (g := g) (p := p) (r := movR p r b) (s := movR p r b) fun _ _ => rfl
  have h3 := m__law_times_eq (g := g) (p := p) (by omega) (by omega) hr hs (by omega)
  have h4 := m_moved_eq (n := 0) (g := g) (p := p) (r := mulR p r s) (by omega) (by omega) hB (by omega)
  have h5 := m_moved_eq (n := 0) (g := g) (p := p) (r := s) (by omega) (by omega) hB (by omega)
  have h6 := m__law_times_eq (g := g) (p := p) (r := movR p r b) (s := movR p s b) (by omega) (by omega) (bR.mov (by omega) hr) (bR.mov (by omega) hs) (by omega)
  have n2 := ne_row (g := g) (p := p) (r := movR p (mulR p r s) b) (s := mulR p (movR p r b) (movR p s b)) fun k hk => movR_mul (by omega) (p7_pr hp b hb1 hb) (by omega)
  generalize rowD p (mulR p (movR p r b) (movR p s b)) = R6 at *
  generalize rowD p (movR p (mulR p r s) b) = R5 at *
  generalize rowD p (mulR p r s) = R4 at *
  generalize rowD p (movR p r b) = R3 at *
  generalize rowD p (movR p s b) = R7 at *
  generalize rowD p r = R1 at *
  generalize rowD p s = R2 at *
  generalize wid p (accM p r b (p - 1)) = L at *
  simp (disch := omega) only [S_law_22, h1, h2, n1, h3, h4, h5, h6, n2, eV_ap, eC_ap, eBin_ap, eNeg_ap, tVal_ap, eIsN_ap, eNotN_ap, eChain_ap, tAndF_ap, tOrF_ap, tNotF_ap, tTru_ap, eAnd_ap, eOr_ap, eNot_ap, eIf_ap, aNil_ap, aCons_ap, eTup_ap, eLst_ap, oNone_ap, oSome_ap, eSl_ap, eCall_ap, iLst_ap, iTpl_ap, iRan2_apN, eOf_ap, oLst_ap, oCat_ap, oRep_ap, oSl_ap, oList_ap, oComp_ap, tYesF_ap, sNil_ap, sSeq_th, sBrk_ap, sCnt_ap, sExpr_ap, sRet_ap, sRetN_ap, sIf_ap, sSet_ap, sSetO_ap, sAsg_ap, sPar_ap, sPar3_ap, sAug_ap, sApp_ap, sExt_ap, sSetIx_ap, sFrz_ap, eIxO_ap, eLenO_ap, eIxA_ap, eLenA_ap, vOf_ap, vCons_ap, vOwn_ap, vOwn2_ap, sTup_ap, iSeq_ap, sRaise_ap, sTry_ap, eExF_ap, tIfF_ap, eRev_ap, eRevA_ap, eRevF_ap, th_nx, th_rt, th_bk, th_ct, th_exc, bind_ok, bind_exc, go_ok, go_exc, opAdd_int, opSub_int, opMul_a, opMul_b, opDiv_pos, opDiv_wide, opMod_pos, opI_int, opEq_int, opNe_int, opEq_bool, opNe_bool, atI_0, atI_1, atI_2, atI_3, opIx_list, opIx_tuple, iRan1_ap, bLen_list, bLen_tuple, bInt_int, bAbs_int, bName, bNil, bCons, bTup, List.getElem?_cons_zero, List.getElem?_cons_succ, List.set_cons_zero, List.set_cons_succ, List.length_cons, List.length_nil, noTok, if_true, if_false, decide_true, decide_false, Bool.not_true, Bool.not_false, setAll, List.map_cons, List.map_nil, truD, Bool.true_eq_false, Bool.false_eq_true, Option.bind_some, true_and, and_true, List.replicate, startR, List.cons_append, List.nil_append, Nat.sub_self, reduceIte, ↓reduceIte, isNon, LIM_eq, and_self, List.map_append, List.length_map, Int.toNat_natCast, Nat.zero_le, Nat.reduceLeDiff, Int.reduceNeg, Int.reduceLE, Int.reduceLT, Int.zero_add, ran1_int, ran2_int, noEx, eq_self, dI, dP, dPs]
theorem t24 {r : Nat → Int} (hp : p ∈ P7) (hP : P = (p : Int)) : S_law_24 [x0, .d tokD, .d (.int P), .d (.int Q), x4, x5, x6, x7, x8, x9, x10, x11, x12, x13, x14, x15, x16, x17, x18, x19, x20, x21, x22, x23, x24, x25, x26, x27] g = .nx [x0, .d tokD, .d (.int P), .d (.int Q), x4, x5, x6, x7, x8, x9, x10, x11, x12, x13, .d (rowD p (totR p r 0)), x15, x16, x17, x18, x19, x20, x21, x22, x23, x24, x25, x26, x27] g := by
  obtain ⟨hp3, hp19⟩ := p7_b p hp
  have h : opMulT (.tuple [.int 0]) (.int (P - 1)) g = .ok (rowD p (totR p r 0)) g := zeros_row (g := g) hP hp3 (by omega)
  generalize rowD p (totR p r 0) = R at *
  simp (disch := omega) only [S_law_24, h, eV_ap, eC_ap, eBin_ap, eNeg_ap, tVal_ap, eIsN_ap, eNotN_ap, eChain_ap, tAndF_ap, tOrF_ap, tNotF_ap, tTru_ap, eAnd_ap, eOr_ap, eNot_ap, eIf_ap, aNil_ap, aCons_ap, eTup_ap, eLst_ap, oNone_ap, oSome_ap, eSl_ap, eCall_ap, iLst_ap, iTpl_ap, iRan2_apN, eOf_ap, oLst_ap, oCat_ap, oRep_ap, oSl_ap, oList_ap, oComp_ap, tYesF_ap, sNil_ap, sSeq_th, sBrk_ap, sCnt_ap, sExpr_ap, sRet_ap, sRetN_ap, sIf_ap, sSet_ap, sSetO_ap, sAsg_ap, sPar_ap, sPar3_ap, sAug_ap, sApp_ap, sExt_ap, sSetIx_ap, sFrz_ap, eIxO_ap, eLenO_ap, eIxA_ap, eLenA_ap, vOf_ap, vCons_ap, vOwn_ap, vOwn2_ap, sTup_ap, iSeq_ap, sRaise_ap, sTry_ap, eExF_ap, tIfF_ap, eRev_ap, eRevA_ap, eRevF_ap, th_nx, th_rt, th_bk, th_ct, th_exc, bind_ok, bind_exc, go_ok, go_exc, opAdd_int, opSub_int, opMul_a, opMul_b, opDiv_pos, opDiv_wide, opMod_pos, opI_int, opEq_int, opNe_int, opEq_bool, opNe_bool, atI_0, atI_1, atI_2, atI_3, opIx_list, opIx_tuple, iRan1_ap, bLen_list, bLen_tuple, bInt_int, bAbs_int, bName, bNil, bCons, bTup, List.getElem?_cons_zero, List.getElem?_cons_succ, List.set_cons_zero, List.set_cons_succ, List.length_cons, List.length_nil, noTok, if_true, if_false, decide_true, decide_false, Bool.not_true, Bool.not_false, setAll, List.map_cons, List.map_nil, truD, Bool.true_eq_false, Bool.false_eq_true, Option.bind_some, true_and, and_true, List.replicate, startR, List.cons_append, List.nil_append, Nat.sub_self, reduceIte, ↓reduceIte, isNon, LIM_eq, and_self, List.map_append, List.length_map, Int.toNat_natCast, Nat.zero_le, Nat.reduceLeDiff, Int.reduceNeg, Int.reduceLE, Int.reduceLT, Int.zero_add, ran1_int, ran2_int, noEx, eq_self, dI, dP, dPs]
theorem t25 {r : Nat → Int} (hp : p ∈ P7) (hP : P = (p : Int)) : ∃ y : SV, S_law_25 [x0, .d tokD, .d (.int P), .d (.int Q), x4, x5, .d (rowD p r), x7, x8, x9, x10, x11, x12, x13, .d (rowD p (totR p r 0)), x15, x16, x17, x18, x19, x20, x21, x22, x23, x24, x25, x26, x27] g = .nx [x0, .d tokD, .d (.int P), .d (.int Q), y, x5, .d (rowD p r), x7, x8, x9, x10, x11, x12, x13, .d (rowD p (totR p r (p - 1))), x15, x16, x17, x18, x19, x20, x21, x22, x23, x24, x25, x26, x27] g := by
  obtain ⟨hp3, hp19⟩ := p7_b p hp
  obtain ⟨ρ1, g1, ⟨rfl, y, rfl⟩, hw⟩ := sFor_run (fi := iRan2 (aCons (eC (.int 1)) (aCons (eV 2) aNil))) (b := bName 4) (f := B_law_25) (items := upTo 1 (p - 1)) (ρ := [x0, .d tokD, .d (.int P), .d (.int Q), x4, x5, .d (rowD p r), x7, x8, x9, x10, x11, x12, x13, .d (rowD p (totR p r 0)), x15, x16, x17, x18, x19, x20, x21, x22, x23, x24, x25, x26, x27]) (g := g) (g1 := g)
    (fun i ρ g' => g' = g ∧ ∃ y : SV, ρ = [x0, .d tokD, .d (.int P), .d (.int Q), y, x5, .d (rowD p r), x7, x8, x9, x10, x11, x12, x13, .d (rowD p (totR p r i)), x15, x16, x17, x18, x19, x20, x21, x22, x23, x24, x25, x26, x27]) (by
      have e := ran2_int (i := 1) (j := P) (g := g) (by omega) (by omega) (by omega) (by omega)
      rw [show (P - 1).toNat = p - 1 by omega] at e
      generalize rowD p r = R1 at *
      generalize rowD p (totR p r 0) = R2 at *
      simp (disch := omega) only [e, eV_ap, eC_ap, eBin_ap, eNeg_ap, tVal_ap, eIsN_ap, eNotN_ap, eChain_ap, tAndF_ap, tOrF_ap, tNotF_ap, tTru_ap, eAnd_ap, eOr_ap, eNot_ap, eIf_ap, aNil_ap, aCons_ap, eTup_ap, eLst_ap, oNone_ap, oSome_ap, eSl_ap, eCall_ap, iLst_ap, iTpl_ap, iRan2_apN, eOf_ap, oLst_ap, oCat_ap, oRep_ap, oSl_ap, oList_ap, oComp_ap, tYesF_ap, sNil_ap, sSeq_th, sBrk_ap, sCnt_ap, sExpr_ap, sRet_ap, sRetN_ap, sIf_ap, sSet_ap, sSetO_ap, sAsg_ap, sPar_ap, sPar3_ap, sAug_ap, sApp_ap, sExt_ap, sSetIx_ap, sFrz_ap, eIxO_ap, eLenO_ap, eIxA_ap, eLenA_ap, vOf_ap, vCons_ap, vOwn_ap, vOwn2_ap, sTup_ap, iSeq_ap, sRaise_ap, sTry_ap, eExF_ap, tIfF_ap, eRev_ap, eRevA_ap, eRevF_ap, th_nx, th_rt, th_bk, th_ct, th_exc, bind_ok, bind_exc, go_ok, go_exc, opAdd_int, opSub_int, opMul_a, opMul_b, opDiv_pos, opDiv_wide, opMod_pos, opI_int, opEq_int, opNe_int, opEq_bool, opNe_bool, atI_0, atI_1, atI_2, atI_3, opIx_list, opIx_tuple, iRan1_ap, bLen_list, bLen_tuple, bInt_int, bAbs_int, bName, bNil, bCons, bTup, List.getElem?_cons_zero, List.getElem?_cons_succ, List.set_cons_zero, List.set_cons_succ, List.length_cons, List.length_nil, noTok, if_true, if_false, decide_true, decide_false, Bool.not_true, Bool.not_false, setAll, List.map_cons, List.map_nil, truD, Bool.true_eq_false, Bool.false_eq_true, Option.bind_some, true_and, and_true, List.replicate, startR, List.cons_append, List.nil_append, Nat.sub_self, reduceIte, ↓reduceIte, isNon, LIM_eq, and_self, List.map_append, List.length_map, Int.toNat_natCast, Nat.zero_le, Nat.reduceLeDiff, Int.reduceNeg, Int.reduceLE, Int.reduceLT, Int.zero_add, ran1_int, noEx, eq_self, dI, dP, dPs]) ⟨rfl, x4, rfl⟩ (by
      rintro i hi ρ g' ⟨rfl, y, rfl⟩
      rw [upTo_len] at hi
      obtain ⟨I, hI⟩ : ∃ I : Int, I = 1 + (i : Int) := ⟨_, rfl⟩
      refine ⟨[x0, .d tokD, .d (.int P), .d (.int Q), .d (.int I), x5, .d (rowD p r), x7, x8, x9, x10, x11, x12, x13, .d (rowD p (totR p r i)), x15, x16, x17, x18, x19, x20, x21, x22, x23, x24, x25, x26, x27], [x0, .d tokD, .d (.int P), .d (.int Q), .d (.int I), x5, .d (rowD p r), x7, x8, x9, x10, x11, x12, x13, .d (rowD p (totR p r (i + 1))), x15, x16, x17, x18, x19, x20, x21, x22, x23, x24, x25, x26, x27], g', by
        rw [upTo_get (by rw [upTo_len]; exact hi), ← hI]
        rfl, .inl ?_, rfl, _, rfl⟩
      have hm := m_moved_eq (n := 0) (g := g') (p := p) (r := r) (b := i + 1) (B := I) (by omega) (by omega) (by omega) (by omega)
      have hC : eOf C_law_5 [x0, .d tokD, .d (.int P), .d (.int Q), .d (.int I), x5, .d (rowD p r), x7, x8, x9, x10, x11, x12, x13, .d (rowD p (totR p r i)), x15, x16, x17, x18, x19, x20, x21, x22, x23, x24, x25, x26, x27] g' = .ok (.list (wid (p - 1) (totR p r (i + 1)))) g' := by
        have := comp_all (vs := [26]) (fi := iRan1 (aCons (eBin opSub (eV 2) (eC (.int 1))) aNil)) (b := bName 26) (fe := eBin opAdd (eBin opIx (eV 14) (eV 26)) (eBin opIx (eCall m_moved (aCons (eV 6) (aCons (eV 4) aNil))) (eV 26))) (ρ := [x0, .d tokD, .d (.int P), .d (.int Q), .d (.int I), x5, .d (rowD p r), x7, x8, x9, x10, x11, x12, x13, .d (rowD p (totR p r i)), x15, x16, x17, x18, x19, x20, x21, x22, x23, x24, x25, x26, x27]) (g := g') (lo := 0) (n := p - 1) (fun x => .int (totR p r i x.toNat + movR p r (i + 1) x.toNat)) (by
          have e := ran1_int (j := P - 1) (g := g') (by omega) (by omega)
          rw [show (P - 1).toNat = p - 1 by omega] at e
          generalize rowD p r = R1 at *
          generalize rowD p (totR p r i) = R2 at *
          simp (disch := omega) only [e, eV_ap, eC_ap, eBin_ap, eNeg_ap, tVal_ap, eIsN_ap, eNotN_ap, eChain_ap, tAndF_ap, tOrF_ap, tNotF_ap, tTru_ap, eAnd_ap, eOr_ap, eNot_ap, eIf_ap, aNil_ap, aCons_ap, eTup_ap, eLst_ap, oNone_ap, oSome_ap, eSl_ap, eCall_ap, iLst_ap, iTpl_ap, iRan2_apN, eOf_ap, oLst_ap, oCat_ap, oRep_ap, oSl_ap, oList_ap, oComp_ap, tYesF_ap, sNil_ap, sSeq_th, sBrk_ap, sCnt_ap, sExpr_ap, sRet_ap, sRetN_ap, sIf_ap, sSet_ap, sSetO_ap, sAsg_ap, sPar_ap, sPar3_ap, sAug_ap, sApp_ap, sExt_ap, sSetIx_ap, sFrz_ap, eIxO_ap, eLenO_ap, eIxA_ap, eLenA_ap, vOf_ap, vCons_ap, vOwn_ap, vOwn2_ap, sTup_ap, iSeq_ap, sRaise_ap, sTry_ap, eExF_ap, tIfF_ap, eRev_ap, eRevA_ap, eRevF_ap, th_nx, th_rt, th_bk, th_ct, th_exc, bind_ok, bind_exc, go_ok, go_exc, opAdd_int, opSub_int, opMul_a, opMul_b, opDiv_pos, opDiv_wide, opMod_pos, opI_int, opEq_int, opNe_int, opEq_bool, opNe_bool, atI_0, atI_1, atI_2, atI_3, opIx_list, opIx_tuple, iRan1_ap, bLen_list, bLen_tuple, bInt_int, bAbs_int, bName, bNil, bCons, bTup, List.getElem?_cons_zero, List.getElem?_cons_succ, List.set_cons_zero, List.set_cons_succ, List.length_cons, List.length_nil, noTok, if_true, if_false, decide_true, decide_false, Bool.not_true, Bool.not_false, setAll, List.map_cons, List.map_nil, truD, Bool.true_eq_false, Bool.false_eq_true, Option.bind_some, true_and, and_true, List.replicate, startR, List.cons_append, List.nil_append, Nat.sub_self, reduceIte, ↓reduceIte, isNon, LIM_eq, and_self, List.map_append, List.length_map, Int.toNat_natCast, Nat.zero_le, Nat.reduceLeDiff, Int.reduceNeg, Int.reduceLE, Int.reduceLT, Int.zero_add, ran2_int, noEx, eq_self, dI, dP, dPs]) (by omega) (fun x q0 q1 => by
          refine ⟨[x0, .d tokD, .d (.int P), .d (.int Q), .d (.int I), x5, .d (rowD p r), x7, x8, x9, x10, x11, x12, x13, .d (rowD p (totR p r i)), x15, x16, x17, x18, x19, x20, x21, x22, x23, x24, x25, .d (.int x), x27], rfl, ?_, rfl⟩
          have i1 : atI (wid (p - 1) (totR p r i)) x = some (.int (totR p r i x.toNat)) := atI_wid (by omega) (by omega)
          have i2 : atI (wid (p - 1) (movR p r (i + 1))) x = some (.int (movR p r (i + 1) x.toNat)) := atI_wid (by omega) (by omega)
          change m_moved [rowD p r, .int I] g' = .ok (.tuple (wid (p - 1) (movR p r (i + 1)))) g' at hm
          change (eBin opAdd (eBin opIx (eV 14) (eV 26)) (eBin opIx (eCall m_moved (aCons (eV 6) (aCons (eV 4) aNil))) (eV 26))) [x0, .d tokD, .d (.int P), .d (.int Q), .d (.int I), x5, .d (rowD p r), x7, x8, x9, x10, x11, x12, x13, .d (.tuple (wid (p - 1) (totR p r i))), x15, x16, x17, x18, x19, x20, x21, x22, x23, x24, x25, .d (.int x), x27] g' = _
          generalize wid (p - 1) (totR p r i) = L1 at *
          generalize wid (p - 1) (movR p r (i + 1)) = L2 at *
          generalize rowD p r = R1 at *
          simp (disch := omega) only [i1, i2, hm, eV_ap, eC_ap, eBin_ap, eNeg_ap, tVal_ap, eIsN_ap, eNotN_ap, eChain_ap, tAndF_ap, tOrF_ap, tNotF_ap, tTru_ap, eAnd_ap, eOr_ap, eNot_ap, eIf_ap, aNil_ap, aCons_ap, eTup_ap, eLst_ap, oNone_ap, oSome_ap, eSl_ap, eCall_ap, iLst_ap, iTpl_ap, iRan2_apN, eOf_ap, oLst_ap, oCat_ap, oRep_ap, oSl_ap, oList_ap, oComp_ap, tYesF_ap, sNil_ap, sSeq_th, sBrk_ap, sCnt_ap, sExpr_ap, sRet_ap, sRetN_ap, sIf_ap, sSet_ap, sSetO_ap, sAsg_ap, sPar_ap, sPar3_ap, sAug_ap, sApp_ap, sExt_ap, sSetIx_ap, sFrz_ap, eIxO_ap, eLenO_ap, eIxA_ap, eLenA_ap, vOf_ap, vCons_ap, vOwn_ap, vOwn2_ap, sTup_ap, iSeq_ap, sRaise_ap, sTry_ap, eExF_ap, tIfF_ap, eRev_ap, eRevA_ap, eRevF_ap, th_nx, th_rt, th_bk, th_ct, th_exc, bind_ok, bind_exc, go_ok, go_exc, opAdd_int, opSub_int, opMul_a, opMul_b, opDiv_pos, opDiv_wide, opMod_pos, opI_int, opEq_int, opNe_int, opEq_bool, opNe_bool, atI_0, atI_1, atI_2, atI_3, opIx_list, opIx_tuple, iRan1_ap, bLen_list, bLen_tuple, bInt_int, bAbs_int, bName, bNil, bCons, bTup, List.getElem?_cons_zero, List.getElem?_cons_succ, List.set_cons_zero, List.set_cons_succ, List.length_cons, List.length_nil, noTok, if_true, if_false, decide_true, decide_false, Bool.not_true, Bool.not_false, setAll, List.map_cons, List.map_nil, truD, Bool.true_eq_false, Bool.false_eq_true, Option.bind_some, true_and, and_true, List.replicate, startR, List.cons_append, List.nil_append, Nat.sub_self, reduceIte, ↓reduceIte, isNon, LIM_eq, and_self, List.map_append, List.length_map, Int.toNat_natCast, Nat.zero_le, Nat.reduceLeDiff, Int.reduceNeg, Int.reduceLE, Int.reduceLT, Int.zero_add, ran1_int, ran2_int, noEx, eq_self, dI, dP, dPs])
        show (C_law_5 _ g').bind _ = _
        rw [show C_law_5 = oComp [26] (iRan1 (aCons (eBin opSub (eV 2) (eC (.int 1))) aNil)) (bName 26) tYesF (eBin opAdd (eBin opIx (eV 14) (eV 26)) (eBin opIx (eCall m_moved (aCons (eV 6) (aCons (eV 4) aNil))) (eV 26))) from rfl, this, bind_ok]
        have e : (irg 0 (p - 1)).map (fun x => PyData.int (totR p r i x.toNat + movR p r (i + 1) x.toNat)) = wid (p - 1) (totR p r (i + 1)) := wid_ext (by rw [List.length_map, irg_len]) fun k hk => by
          rw [List.getElem?_map, irg_get hk, Int.zero_add]
          rfl
        rw [e]
      have ft : bTuple [.list (wid (p - 1) (totR p r (i + 1)))] g' = .ok (rowD p (totR p r (i + 1))) g' := rfl
      generalize rowD p (totR p r (i + 1)) = R3 at *
      generalize wid (p - 1) (totR p r (i + 1)) = L3 at *
      generalize rowD p (totR p r i) = R2 at *
      generalize rowD p r = R1 at *
      simp (disch := omega) only [B_law_25, S_law_26, hC, ft, eV_ap, eC_ap, eBin_ap, eNeg_ap, tVal_ap, eIsN_ap, eNotN_ap, eChain_ap, tAndF_ap, tOrF_ap, tNotF_ap, tTru_ap, eAnd_ap, eOr_ap, eNot_ap, eIf_ap, aNil_ap, aCons_ap, eTup_ap, eLst_ap, oNone_ap, oSome_ap, eSl_ap, eCall_ap, iLst_ap, iTpl_ap, iRan2_apN, oLst_ap, oCat_ap, oRep_ap, oSl_ap, oList_ap, oComp_ap, tYesF_ap, sNil_ap, sSeq_th, sBrk_ap, sCnt_ap, sExpr_ap, sRet_ap, sRetN_ap, sIf_ap, sSet_ap, sSetO_ap, sAsg_ap, sPar_ap, sPar3_ap, sAug_ap, sApp_ap, sExt_ap, sSetIx_ap, sFrz_ap, eIxO_ap, eLenO_ap, eIxA_ap, eLenA_ap, vOf_ap, vCons_ap, vOwn_ap, vOwn2_ap, sTup_ap, iSeq_ap, sRaise_ap, sTry_ap, eExF_ap, tIfF_ap, eRev_ap, eRevA_ap, eRevF_ap, th_nx, th_rt, th_bk, th_ct, th_exc, bind_ok, bind_exc, go_ok, go_exc, opAdd_int, opSub_int, opMul_a, opMul_b, opDiv_pos, opDiv_wide, opMod_pos, opI_int, opEq_int, opNe_int, opEq_bool, opNe_bool, atI_0, atI_1, atI_2, atI_3, opIx_list, opIx_tuple, iRan1_ap, bLen_list, bLen_tuple, bInt_int, bAbs_int, bName, bNil, bCons, bTup, List.getElem?_cons_zero, List.getElem?_cons_succ, List.set_cons_zero, List.set_cons_succ, List.length_cons, List.length_nil, noTok, if_true, if_false, decide_true, decide_false, Bool.not_true, Bool.not_false, setAll, List.map_cons, List.map_nil, truD, Bool.true_eq_false, Bool.false_eq_true, Option.bind_some, true_and, and_true, List.replicate, startR, List.cons_append, List.nil_append, Nat.sub_self, reduceIte, ↓reduceIte, isNon, LIM_eq, and_self, List.map_append, List.length_map, Int.toNat_natCast, Nat.zero_le, Nat.reduceLeDiff, Int.reduceNeg, Int.reduceLE, Int.reduceLT, Int.zero_add, ran1_int, ran2_int, noEx, eq_self, dI, dP, dPs])
  rw [upTo_len] at hw
  exact ⟨y, hw⟩
theorem t27 {r : Nat → Int} (hp : p ∈ P7) (hP : P = (p : Int)) (hr : bR 3 p r) : S_law_27 [x0, .d tokD, .d (.int P), .d (.int Q), x4, x5, .d (rowD p r), x7, x8, x9, x10, x11, x12, x13, .d (rowD p (totR p r (p - 1))), x15, x16, x17, x18, x19, x20, x21, x22, x23, x24, x25, x26, x27] g = .nx [x0, .d tokD, .d (.int P), .d (.int Q), x4, x5, .d (rowD p r), x7, x8, x9, x10, x11, x12, x13, .d (rowD p (totR p r (p - 1))), x15, x16, x17, x18, x19, x20, x21, x22, x23, x24, x25, x26, x27] g := by
  obtain ⟨hp3, hp19⟩ := p7_b p hp
  rw [rowD_congr (r := totR p r (p - 1)) (s := whR (trR p r)) fun k hk => trace_all hp3 (p7_pr hp) hk]
  have h1 := m_trace_eq (g := g) hp3 (by omega) hr (by omega)
  obtain ⟨e1, e2⟩ := tail_row (g := g) (x := trR p r) hP hp3 (by omega)
  have n1 := ne_row (g := g) (p := p) (r := whR (trR p r)) (s := whR (trR p r)) fun _ _ => rfl
  have h2 := m_is_whole_row_eq (g := g) (p := p) (r := whR (trR p r)) (by omega) (by omega)
  rw [wh_all] at h2
  have n2 : opNotB (.bool true) (.bool true) g = .ok (.bool false) g := rfl
  have h3 := m_is_whole_row_eq (g := g) (p := p) (r := r) (by omega) (by omega)
  have hcut := cut1 (r := r) (show 2 ≤ p by omega)
  have hC : eOf C_law_6 [x0, .d tokD, .d (.int P), .d (.int Q), x4, x5, .d (rowD p r), x7, x8, x9, x10, x11, x12, x13, .d (rowD p (whR (trR p r))), x15, x16, x17, x18, x19, x20, x21, x22, x23, x24, x25, x26, x27] g = .ok (.list (((List.range (p - 2)).map fun k => (if r (k + 1) < 0 then -(r (k + 1)) else r (k + 1))).map PyData.int)) g := by
    have := comp_mapA PyData.int (vs := [27]) (fi := iSeq (eSl (eV 6) (oSome (eC (.int 1))) oNone)) (b := bName 27) (fe := eCall bAbs (aCons (eV 27) aNil)) (ρ := [x0, .d tokD, .d (.int P), .d (.int Q), x4, x5, .d (rowD p r), x7, x8, x9, x10, x11, x12, x13, .d (rowD p (whR (trR p r))), x15, x16, x17, x18, x19, x20, x21, x22, x23, x24, x25, x26, x27]) (g := g) (xs := (List.range (p - 2)).map fun k => r (k + 1)) (fun x => .int (if x < 0 then -x else x)) (by
      rw [← hcut]
      rfl) (by rw [List.length_map, List.length_range]; omega) (fun x hx => by
      refine ⟨[x0, .d tokD, .d (.int P), .d (.int Q), x4, x5, .d (rowD p r), x7, x8, x9, x10, x11, x12, x13, .d (rowD p (whR (trR p r))), x15, x16, x17, x18, x19, x20, x21, x22, x23, x24, x25, x26, .d (.int x)], rfl, ?_, rfl⟩
      generalize rowD p r = R1 at *
      generalize rowD p (whR (trR p r)) = R2 at *
      simp (disch := omega) only [eV_ap, eC_ap, eBin_ap, eNeg_ap, tVal_ap, eIsN_ap, eNotN_ap, eChain_ap, tAndF_ap, tOrF_ap, tNotF_ap, tTru_ap, eAnd_ap, eOr_ap, eNot_ap, eIf_ap, aNil_ap, aCons_ap, eTup_ap, eLst_ap, oNone_ap, oSome_ap, eSl_ap, eCall_ap, iLst_ap, iTpl_ap, iRan2_apN, eOf_ap, oLst_ap, oCat_ap, oRep_ap, oSl_ap, oList_ap, oComp_ap, tYesF_ap, sNil_ap, sSeq_th, sBrk_ap, sCnt_ap, sExpr_ap, sRet_ap, sRetN_ap, sIf_ap, sSet_ap, sSetO_ap, sAsg_ap, sPar_ap, sPar3_ap, sAug_ap, sApp_ap, sExt_ap, sSetIx_ap, sFrz_ap, eIxO_ap, eLenO_ap, eIxA_ap, eLenA_ap, vOf_ap, vCons_ap, vOwn_ap, vOwn2_ap, sTup_ap, iSeq_ap, sRaise_ap, sTry_ap, eExF_ap, tIfF_ap, eRev_ap, eRevA_ap, eRevF_ap, th_nx, th_rt, th_bk, th_ct, th_exc, bind_ok, bind_exc, go_ok, go_exc, opAdd_int, opSub_int, opMul_a, opMul_b, opDiv_pos, opDiv_wide, opMod_pos, opI_int, opEq_int, opNe_int, opEq_bool, opNe_bool, atI_0, atI_1, atI_2, atI_3, opIx_list, opIx_tuple, iRan1_ap, bLen_list, bLen_tuple, bInt_int, bAbs_int, bName, bNil, bCons, bTup, List.getElem?_cons_zero, List.getElem?_cons_succ, List.set_cons_zero, List.set_cons_succ, List.length_cons, List.length_nil, noTok, if_true, if_false, decide_true, decide_false, Bool.not_true, Bool.not_false, setAll, List.map_cons, List.map_nil, truD, Bool.true_eq_false, Bool.false_eq_true, Option.bind_some, true_and, and_true, List.replicate, startR, List.cons_append, List.nil_append, Nat.sub_self, reduceIte, ↓reduceIte, isNon, LIM_eq, and_self, List.map_append, List.length_map, Int.toNat_natCast, Nat.zero_le, Nat.reduceLeDiff, Int.reduceNeg, Int.reduceLE, Int.reduceLT, Int.zero_add, ran1_int, ran2_int, noEx, eq_self, dI, dP, dPs])
    show (C_law_6 _ g).bind _ = _
    rw [show C_law_6 = oComp [27] (iSeq (eSl (eV 6) (oSome (eC (.int 1))) oNone)) (bName 27) tYesF (eCall bAbs (aCons (eV 27) aNil)) from rfl, this, bind_ok, List.map_map, List.map_map]
    rfl
  obtain ⟨M, hM, hM0⟩ : ∃ M : Int, bMax [.list (((List.range (p - 2)).map fun k => (if r (k + 1) < 0 then -(r (k + 1)) else r (k + 1))).map PyData.int)] g = .ok (.int M) g ∧ decide (M = 0) = (((List.range (p - 2)).map fun k => decide (r (k + 1) = 0)).all id) := by
    obtain ⟨m, hm⟩ : ∃ m, p - 2 = m + 1 := ⟨p - 3, by omega⟩
    rw [hm]
    refine ⟨maxL (if r (0 + 1) < 0 then -(r (0 + 1)) else r (0 + 1)) ((List.range m).map fun k => (if r (k + 1 + 1) < 0 then -(r (k + 1 + 1)) else r (k + 1 + 1))), ?_, ?_⟩
    · show (match asInts (((List.range (m + 1)).map fun k => (if r (k + 1) < 0 then -(r (k + 1)) else r (k + 1))).map PyData.int) with | some (n :: ns) => Out.ok (PyData.int (maxL n ns)) g | _ => .bad) = _
      rw [asInts_map, List.range_succ_eq_map, List.map_cons, List.map_map]
      rfl
    · rw [Bool.eq_iff_iff, decide_eq_true_iff, maxL0 _ _ (by split <;> omega) (fun x hx => by
        obtain ⟨k, _, rfl⟩ := List.mem_map.mp hx
        split <;> omega), List.all_eq_true]
      constructor
      · rintro ⟨q1, q2⟩ y hy
        obtain ⟨k, hk, rfl⟩ := List.mem_map.mp hy
        have hk := List.mem_range.mp hk
        show decide (r (k + 1) = 0) = true
        cases k with
        | zero =>
          refine decide_eq_true ?_
          split at q1 <;> omega
        | succ k =>
          have := q2 _ (List.mem_map.mpr ⟨k, List.mem_range.mpr (by omega), rfl⟩)
          refine decide_eq_true ?_
          split at this <;> omega
      · intro h
        have h' : ∀ k, k < m + 1 → r (k + 1) = 0 := fun k hk => of_decide_eq_true (h _ (List.mem_map.mpr ⟨k, List.mem_range.mpr hk, rfl⟩))
        refine ⟨?_, fun x hx => ?_⟩
        · have := h' 0 (by omega)
          rw [this]
          rfl
        · obtain ⟨k, hk, rfl⟩ := List.mem_map.mp hx
          have := h' (k + 1) (by have := List.mem_range.mp hk; omega)
          rw [this]
          rfl
  have n3 : opNe (.bool (((List.range (p - 2)).map fun k => decide (r (k + 1) = 0)).all id)) (.bool (decide (M = 0))) g = .ok (.bool false) g := by
    rw [opNe_bool, hM0, beq_self_eq_true]
    rfl
  generalize ((List.range (p - 2)).map fun k => decide (r (k + 1) = 0)).all id = B1 at *
  generalize ((List.range (p - 2)).map fun k => (if r (k + 1) < 0 then -(r (k + 1)) else r (k + 1))).map PyData.int = L1 at *
  generalize wid (p - 2) (fun _ => 0) = L at *
  generalize rowD p (whR (trR p r)) = R2 at *
  generalize trR p r = TR at *
  generalize rowD p r = R1 at *
  clear hM0
  simp (disch := omega) only [S_law_27, h1, e1, e2, n1, h2, n2, h3, hC, hM, n3, opEq_int, eV_ap, eC_ap, eBin_ap, eNeg_ap, tVal_ap, eIsN_ap, eNotN_ap, eChain_ap, tAndF_ap, tOrF_ap, tNotF_ap, tTru_ap, eAnd_ap, eOr_ap, eNot_ap, eIf_ap, aNil_ap, aCons_ap, eTup_ap, eLst_ap, oNone_ap, oSome_ap, eSl_ap, eCall_ap, iLst_ap, iTpl_ap, iRan2_apN, oLst_ap, oCat_ap, oRep_ap, oSl_ap, oList_ap, oComp_ap, tYesF_ap, sNil_ap, sSeq_th, sBrk_ap, sCnt_ap, sExpr_ap, sRet_ap, sRetN_ap, sIf_ap, sSet_ap, sSetO_ap, sAsg_ap, sPar_ap, sPar3_ap, sAug_ap, sApp_ap, sExt_ap, sSetIx_ap, sFrz_ap, eIxO_ap, eLenO_ap, eIxA_ap, eLenA_ap, vOf_ap, vCons_ap, vOwn_ap, vOwn2_ap, sTup_ap, iSeq_ap, sRaise_ap, sTry_ap, eExF_ap, tIfF_ap, eRev_ap, eRevA_ap, eRevF_ap, th_nx, th_rt, th_bk, th_ct, th_exc, bind_ok, bind_exc, go_ok, go_exc, opAdd_int, opSub_int, opMul_a, opMul_b, opDiv_pos, opDiv_wide, opMod_pos, opI_int, opEq_int, opNe_int, opEq_bool, atI_0, atI_1, atI_2, atI_3, opIx_list, opIx_tuple, iRan1_ap, bLen_list, bLen_tuple, bInt_int, bAbs_int, bName, bNil, bCons, bTup, List.getElem?_cons_zero, List.getElem?_cons_succ, List.set_cons_zero, List.set_cons_succ, List.length_cons, List.length_nil, noTok, if_true, if_false, decide_true, decide_false, Bool.not_true, Bool.not_false, setAll, List.map_cons, List.map_nil, truD, Bool.true_eq_false, Bool.false_eq_true, Option.bind_some, true_and, and_true, List.replicate, startR, List.cons_append, List.nil_append, Nat.sub_self, reduceIte, ↓reduceIte, isNon, LIM_eq, and_self, List.map_append, List.length_map, Int.toNat_natCast, Nat.zero_le, Nat.reduceLeDiff, Int.reduceNeg, Int.reduceLE, Int.reduceLT, Int.zero_add, ran1_int, ran2_int, noEx, eq_self, dI, dP, dPs]
theorem t29 (hp : p ∈ P7) (hP : P = (p : Int)) : S_law_29 [x0, .d tokD, .d (.int P), .d (.int Q), x4, x5, x6, x7, x8, x9, x10, x11, x12, x13, x14, x15, x16, x17, x18, x19, x20, x21, x22, x23, x24, x25, x26, x27] g = .nx [x0, .d tokD, .d (.int P), .d (.int Q), x4, x5, x6, x7, x8, x9, x10, x11, x12, x13, x14, .own (wid p fun _ => 0), .own (wid p fun _ => 0), x17, x18, x19, x20, x21, x22, x23, x24, x25, x26, x27] g := by
  obtain ⟨hp3, hp19⟩ := p7_b p hp
  have h := rep_zero (g := g) (p := p) (P := P) (fe := eV 2) (ρ := [x0, .d tokD, .d (.int P), .d (.int Q), x4, x5, x6, x7, x8, x9, x10, x11, x12, x13, x14, x15, x16, x17, x18, x19, x20, x21, x22, x23, x24, x25, x26, x27]) hP (by omega) rfl
  show ((vOwn2 (oRep (eLst (aCons (eC (.int 0)) aNil)) (eV 2)) (oRep (eLst (aCons (eC (.int 0)) aNil)) (eV 2)) aNil) _ g).go _ _ = _
  rw [vOwn2_ap, h, bind_ok, vOwn_ap, h, bind_ok, aNil_ap, bind_ok, bind_ok, go_ok]
  rfl
theorem t30 {A : Nat} {a : Int} (hp : p ∈ P7) (hP : P = (p : Int)) (ha : a % P = (A : Int)) : ∃ y : SV, S_law_30 [x0, .d tokD, .d (.int P), .d (.int Q), x4, x5, x6, x7, x8, x9, x10, .d (.int a), x12, x13, x14, .own (wid p fun _ => 0), .own (wid p fun _ => 0), x17, x18, x19, x20, x21, x22, x23, x24, x25, x26, x27] g = .nx [x0, .d tokD, .d (.int P), .d (.int Q), y, x5, x6, x7, x8, x9, x10, .d (.int a), x12, x13, x14, .own (wid p (accL p A p)), .own (wid p (accQ p A p)), x17, x18, x19, x20, x21, x22, x23, x24, x25, x26, x27] g := by
  obtain ⟨hp3, hp19⟩ := p7_b p hp
  obtain ⟨ρ1, g1, ⟨rfl, y, rfl⟩, hw⟩ := sFor_run (fi := iRan1 (aCons (eV 2) aNil)) (b := bName 4) (f := B_law_30) (items := upTo 0 p) (ρ := [x0, .d tokD, .d (.int P), .d (.int Q), x4, x5, x6, x7, x8, x9, x10, .d (.int a), x12, x13, x14, .own (wid p (accL p A 0)), .own (wid p (accQ p A 0)), x17, x18, x19, x20, x21, x22, x23, x24, x25, x26, x27]) (g := g) (g1 := g)
    (fun i ρ g' => g' = g ∧ ∃ y : SV, ρ = [x0, .d tokD, .d (.int P), .d (.int Q), y, x5, x6, x7, x8, x9, x10, .d (.int a), x12, x13, x14, .own (wid p (accL p A i)), .own (wid p (accQ p A i)), x17, x18, x19, x20, x21, x22, x23, x24, x25, x26, x27]) (by
      have e := ran1_int (j := P) (g := g) (by omega) (by omega)
      rw [show P.toNat = p by omega] at e
      generalize wid p (accL p A 0) = L at *
      generalize wid p (accQ p A 0) = L2 at *
      simp (disch := omega) only [e, eV_ap, eC_ap, eBin_ap, eNeg_ap, tVal_ap, eIsN_ap, eNotN_ap, eChain_ap, tAndF_ap, tOrF_ap, tNotF_ap, tTru_ap, eAnd_ap, eOr_ap, eNot_ap, eIf_ap, aNil_ap, aCons_ap, eTup_ap, eLst_ap, oNone_ap, oSome_ap, eSl_ap, eCall_ap, iLst_ap, iTpl_ap, iRan2_apN, eOf_ap, oLst_ap, oCat_ap, oRep_ap, oSl_ap, oList_ap, oComp_ap, tYesF_ap, sNil_ap, sSeq_th, sBrk_ap, sCnt_ap, sExpr_ap, sRet_ap, sRetN_ap, sIf_ap, sSet_ap, sSetO_ap, sAsg_ap, sPar_ap, sPar3_ap, sAug_ap, sApp_ap, sExt_ap, sSetIx_ap, sFrz_ap, eIxO_ap, eLenO_ap, eIxA_ap, eLenA_ap, vOf_ap, vCons_ap, vOwn_ap, vOwn2_ap, sTup_ap, iSeq_ap, sRaise_ap, sTry_ap, eExF_ap, tIfF_ap, eRev_ap, eRevA_ap, eRevF_ap, th_nx, th_rt, th_bk, th_ct, th_exc, bind_ok, bind_exc, go_ok, go_exc, opAdd_int, opSub_int, opMul_a, opMul_b, opDiv_pos, opDiv_wide, opMod_pos, opI_int, opEq_int, opNe_int, opEq_bool, opNe_bool, atI_0, atI_1, atI_2, atI_3, opIx_list, opIx_tuple, iRan1_ap, bLen_list, bLen_tuple, bInt_int, bAbs_int, bName, bNil, bCons, bTup, List.getElem?_cons_zero, List.getElem?_cons_succ, List.set_cons_zero, List.set_cons_succ, List.length_cons, List.length_nil, noTok, if_true, if_false, decide_true, decide_false, Bool.not_true, Bool.not_false, setAll, List.map_cons, List.map_nil, truD, Bool.true_eq_false, Bool.false_eq_true, Option.bind_some, true_and, and_true, List.replicate, startR, List.cons_append, List.nil_append, Nat.sub_self, reduceIte, ↓reduceIte, isNon, LIM_eq, and_self, List.map_append, List.length_map, Int.toNat_natCast, Nat.zero_le, Nat.reduceLeDiff, Int.reduceNeg, Int.reduceLE, Int.reduceLT, Int.zero_add, ran2_int, noEx, eq_self, dI, dP, dPs]) ⟨rfl, x4, rfl⟩ (by
      rintro i hi ρ g' ⟨rfl, y, rfl⟩
      rw [upTo_len] at hi
      obtain ⟨I, hI⟩ : ∃ I : Int, I = (i : Int) := ⟨_, rfl⟩
      refine ⟨[x0, .d tokD, .d (.int P), .d (.int Q), .d (.int I), x5, x6, x7, x8, x9, x10, .d (.int a), x12, x13, x14, .own (wid p (accL p A i)), .own (wid p (accQ p A i)), x17, x18, x19, x20, x21, x22, x23, x24, x25, x26, x27], [x0, .d tokD, .d (.int P), .d (.int Q), .d (.int I), x5, x6, x7, x8, x9, x10, .d (.int a), x12, x13, x14, .own (wid p (accL p A (i + 1))), .own (wid p (accQ p A (i + 1))), x17, x18, x19, x20, x21, x22, x23, x24, x25, x26, x27], g', by
        rw [upTo_get (by rw [upTo_len]; exact hi), Int.zero_add, ← hI]
        rfl, .inl ?_, rfl, _, rfl⟩
      have hI2 : I * I = ((i * i : Nat) : Int) := by rw [hI, Int.natCast_mul]
      have hil : i * i ≤ 19 * 19 := Nat.mul_le_mul (by omega) (by omega)
      have hz : I * a % P = ((i * A % p : Nat) : Int) := by
        rw [Int.mul_emod, ha, hI, hP, mod_nat, mod_cast1, Nat.mod_mul_mod]
      have hz2 : I * I * a % P = ((i * i * A % p : Nat) : Int) := by
        rw [Int.mul_emod, ha, hI2, hP, mod_nat, mod_cast1, Nat.mod_mul_mod]
      have hml : i * A % p < p := Nat.mod_lt _ (by omega)
      have hml2 : i * i * A % p < p := Nat.mod_lt _ (by omega)
      have hmod : opMod (.int (I * a)) (.int P) g' = .ok (.int (I * a % P)) g' := opMod_pos (by omega)
      have hmul : opMul (.int I) (.int a) g' = .ok (.int (I * a)) g' := opMul_a (by omega) (by omega)
      have hmod2 : opMod (.int (I * I * a)) (.int P) g' = .ok (.int (I * I * a % P)) g' := opMod_pos (by omega)
      have hmul0 : opMul (.int I) (.int I) g' = .ok (.int (I * I)) g' := opMul_a (by omega) (by omega)
      have hmul2 : opMul (.int (I * I)) (.int a) g' = .ok (.int (I * I * a)) g' := opMul_a (by omega) (by omega)
      refine seq_nx (ρ1 := [x0, .d tokD, .d (.int P), .d (.int Q), .d (.int I), x5, x6, x7, x8, x9, x10, .d (.int a), x12, x13, x14, .own (wid p (accL p A (i + 1))), .own (wid p (accQ p A i)), x17, x18, x19, x20, x21, x22, x23, x24, x25, x26, x27]) (g1 := g') ?_ ?_
      · unfold S_law_31
        refine Eq.trans (set_add (p := p) (W := accL p A i) (m := i * A % p) (v := J p i) (z := I * a % P) rfl ?_ hz hml ?_) ?_
        · generalize wid p (accL p A i) = L at *
          generalize wid p (accQ p A i) = L2 at *
          simp (disch := omega) only [hmul, hmod, eV_ap, eC_ap, eBin_ap, eNeg_ap, tVal_ap, eIsN_ap, eNotN_ap, eChain_ap, tAndF_ap, tOrF_ap, tNotF_ap, tTru_ap, eAnd_ap, eOr_ap, eNot_ap, eIf_ap, aNil_ap, aCons_ap, eTup_ap, eLst_ap, oNone_ap, oSome_ap, eSl_ap, eCall_ap, iLst_ap, iTpl_ap, iRan2_apN, eOf_ap, oLst_ap, oCat_ap, oRep_ap, oSl_ap, oList_ap, oComp_ap, tYesF_ap, sNil_ap, sSeq_th, sBrk_ap, sCnt_ap, sExpr_ap, sRet_ap, sRetN_ap, sIf_ap, sSet_ap, sSetO_ap, sAsg_ap, sPar_ap, sPar3_ap, sAug_ap, sApp_ap, sExt_ap, sSetIx_ap, sFrz_ap, eIxO_ap, eLenO_ap, eIxA_ap, eLenA_ap, vOf_ap, vCons_ap, vOwn_ap, vOwn2_ap, sTup_ap, iSeq_ap, sRaise_ap, sTry_ap, eExF_ap, tIfF_ap, eRev_ap, eRevA_ap, eRevF_ap, th_nx, th_rt, th_bk, th_ct, th_exc, bind_ok, bind_exc, go_ok, go_exc, opAdd_int, opSub_int, opDiv_pos, opDiv_wide, opI_int, opEq_int, opNe_int, opEq_bool, opNe_bool, atI_0, atI_1, atI_2, atI_3, opIx_list, opIx_tuple, iRan1_ap, bLen_list, bLen_tuple, bInt_int, bAbs_int, bName, bNil, bCons, bTup, List.getElem?_cons_zero, List.getElem?_cons_succ, List.set_cons_zero, List.set_cons_succ, List.length_cons, List.length_nil, noTok, if_true, if_false, decide_true, decide_false, Bool.not_true, Bool.not_false, setAll, List.map_cons, List.map_nil, truD, Bool.true_eq_false, Bool.false_eq_true, Option.bind_some, true_and, and_true, List.replicate, startR, List.cons_append, List.nil_append, Nat.sub_self, reduceIte, ↓reduceIte, isNon, LIM_eq, and_self, List.map_append, List.length_map, Int.toNat_natCast, Nat.zero_le, Nat.reduceLeDiff, Int.reduceNeg, Int.reduceLE, Int.reduceLT, Int.zero_add, ran1_int, ran2_int, noEx, eq_self, dI, dP, dPs]
        · by_cases h0 : i = 0
          · subst h0
            have : J p 0 = 0 := by
              unfold J
              rw [if_pos (Nat.zero_mod p)]
            rw [this]
            generalize wid p (accL p A 0) = L at *
            generalize wid p (accQ p A 0) = L2 at *
            have hI0 : ¬ I > 0 := by omega
            simp (disch := omega) only [hI0, eV_ap, eC_ap, eBin_ap, eNeg_ap, tVal_ap, eIsN_ap, eNotN_ap, eChain_ap, tAndF_ap, tOrF_ap, tNotF_ap, tTru_ap, eAnd_ap, eOr_ap, eNot_ap, eIf_ap, aNil_ap, aCons_ap, eTup_ap, eLst_ap, oNone_ap, oSome_ap, eSl_ap, eCall_ap, iLst_ap, iTpl_ap, iRan2_apN, eOf_ap, oLst_ap, oCat_ap, oRep_ap, oSl_ap, oList_ap, oComp_ap, tYesF_ap, sNil_ap, sSeq_th, sBrk_ap, sCnt_ap, sExpr_ap, sRet_ap, sRetN_ap, sIf_ap, sSet_ap, sSetO_ap, sAsg_ap, sPar_ap, sPar3_ap, sAug_ap, sApp_ap, sExt_ap, sSetIx_ap, sFrz_ap, eIxO_ap, eLenO_ap, eIxA_ap, eLenA_ap, vOf_ap, vCons_ap, vOwn_ap, vOwn2_ap, sTup_ap, iSeq_ap, sRaise_ap, sTry_ap, eExF_ap, tIfF_ap, eRev_ap, eRevA_ap, eRevF_ap, th_nx, th_rt, th_bk, th_ct, th_exc, bind_ok, bind_exc, go_ok, go_exc, opAdd_int, opSub_int, opMul_a, opMul_b, opDiv_pos, opDiv_wide, opMod_pos, opI_int, opEq_int, opNe_int, opEq_bool, opNe_bool, atI_0, atI_1, atI_2, atI_3, opIx_list, opIx_tuple, iRan1_ap, bLen_list, bLen_tuple, bInt_int, bAbs_int, bName, bNil, bCons, bTup, List.getElem?_cons_zero, List.getElem?_cons_succ, List.set_cons_zero, List.set_cons_succ, List.length_cons, List.length_nil, noTok, if_true, if_false, decide_true, decide_false, Bool.not_true, Bool.not_false, setAll, List.map_cons, List.map_nil, truD, Bool.true_eq_false, Bool.false_eq_true, Option.bind_some, true_and, and_true, List.replicate, startR, List.cons_append, List.nil_append, Nat.sub_self, reduceIte, ↓reduceIte, isNon, LIM_eq, and_self, List.map_append, List.length_map, Int.toNat_natCast, Nat.zero_le, Nat.reduceLeDiff, Int.reduceNeg, Int.reduceLE, Int.reduceLT, Int.zero_add, ran1_int, ran2_int, noEx, eq_self, dI, dP, dPs]
          · have hj := m_ljacobi_p (g := g') (j := i) hp (by omega) hi hP hI
            generalize wid p (accL p A i) = L at *
            generalize wid p (accQ p A i) = L2 at *
            have hI0 : I > 0 := by omega
            simp (disch := omega) only [hI0, hj, eV_ap, eC_ap, eBin_ap, eNeg_ap, tVal_ap, eIsN_ap, eNotN_ap, eChain_ap, tAndF_ap, tOrF_ap, tNotF_ap, tTru_ap, eAnd_ap, eOr_ap, eNot_ap, eIf_ap, aNil_ap, aCons_ap, eTup_ap, eLst_ap, oNone_ap, oSome_ap, eSl_ap, eCall_ap, iLst_ap, iTpl_ap, iRan2_apN, eOf_ap, oLst_ap, oCat_ap, oRep_ap, oSl_ap, oList_ap, oComp_ap, tYesF_ap, sNil_ap, sSeq_th, sBrk_ap, sCnt_ap, sExpr_ap, sRet_ap, sRetN_ap, sIf_ap, sSet_ap, sSetO_ap, sAsg_ap, sPar_ap, sPar3_ap, sAug_ap, sApp_ap, sExt_ap, sSetIx_ap, sFrz_ap, eIxO_ap, eLenO_ap, eIxA_ap, eLenA_ap, vOf_ap, vCons_ap, vOwn_ap, vOwn2_ap, sTup_ap, iSeq_ap, sRaise_ap, sTry_ap, eExF_ap, tIfF_ap, eRev_ap, eRevA_ap, eRevF_ap, th_nx, th_rt, th_bk, th_ct, th_exc, bind_ok, bind_exc, go_ok, go_exc, opAdd_int, opSub_int, opMul_a, opMul_b, opDiv_pos, opDiv_wide, opMod_pos, opI_int, opEq_int, opNe_int, opEq_bool, opNe_bool, atI_0, atI_1, atI_2, atI_3, opIx_list, opIx_tuple, iRan1_ap, bLen_list, bLen_tuple, bInt_int, bAbs_int, bName, bNil, bCons, bTup, List.getElem?_cons_zero, List.getElem?_cons_succ, List.set_cons_zero, List.set_cons_succ, List.length_cons, List.length_nil, noTok, if_true, if_false, decide_true, decide_false, Bool.not_true, Bool.not_false, setAll, List.map_cons, List.map_nil, truD, Bool.true_eq_false, Bool.false_eq_true, Option.bind_some, true_and, and_true, List.replicate, startR, List.cons_append, List.nil_append, Nat.sub_self, reduceIte, ↓reduceIte, isNon, LIM_eq, and_self, List.map_append, List.length_map, Int.toNat_natCast, Nat.zero_le, Nat.reduceLeDiff, Int.reduceNeg, Int.reduceLE, Int.reduceLT, Int.zero_add, ran1_int, ran2_int, noEx, eq_self, dI, dP, dPs]
        · show SO.nx [x0, .d tokD, .d (.int P), .d (.int Q), .d (.int I), x5, x6, x7, x8, x9, x10, .d (.int a), x12, x13, x14, .own (wid p fun k => if k = i * A % p then accL p A i (i * A % p) + J p i else accL p A i k), .own (wid p (accQ p A i)), x17, x18, x19, x20, x21, x22, x23, x24, x25, x26, x27] g' = _
          rw [acc_step (W := accL p A i) (v := J p i) (m := i * A % p) (f := accL p A) (i := i + 1) fun k => rfl]
      · unfold S_law_32
        refine Eq.trans (set_add (p := p) (W := accQ p A i) (m := i * i * A % p) (v := 1) (z := I * I * a % P) rfl ?_ hz2 hml2 rfl) ?_
        · generalize wid p (accL p A (i + 1)) = L at *
          generalize wid p (accQ p A i) = L2 at *
          simp (disch := omega) only [hmul0, hmul2, hmod2, eV_ap, eC_ap, eBin_ap, eNeg_ap, tVal_ap, eIsN_ap, eNotN_ap, eChain_ap, tAndF_ap, tOrF_ap, tNotF_ap, tTru_ap, eAnd_ap, eOr_ap, eNot_ap, eIf_ap, aNil_ap, aCons_ap, eTup_ap, eLst_ap, oNone_ap, oSome_ap, eSl_ap, eCall_ap, iLst_ap, iTpl_ap, iRan2_apN, eOf_ap, oLst_ap, oCat_ap, oRep_ap, oSl_ap, oList_ap, oComp_ap, tYesF_ap, sNil_ap, sSeq_th, sBrk_ap, sCnt_ap, sExpr_ap, sRet_ap, sRetN_ap, sIf_ap, sSet_ap, sSetO_ap, sAsg_ap, sPar_ap, sPar3_ap, sAug_ap, sApp_ap, sExt_ap, sSetIx_ap, sFrz_ap, eIxO_ap, eLenO_ap, eIxA_ap, eLenA_ap, vOf_ap, vCons_ap, vOwn_ap, vOwn2_ap, sTup_ap, iSeq_ap, sRaise_ap, sTry_ap, eExF_ap, tIfF_ap, eRev_ap, eRevA_ap, eRevF_ap, th_nx, th_rt, th_bk, th_ct, th_exc, bind_ok, bind_exc, go_ok, go_exc, opAdd_int, opSub_int, opDiv_pos, opDiv_wide, opI_int, opEq_int, opNe_int, opEq_bool, opNe_bool, atI_0, atI_1, atI_2, atI_3, opIx_list, opIx_tuple, iRan1_ap, bLen_list, bLen_tuple, bInt_int, bAbs_int, bName, bNil, bCons, bTup, List.getElem?_cons_zero, List.getElem?_cons_succ, List.set_cons_zero, List.set_cons_succ, List.length_cons, List.length_nil, noTok, if_true, if_false, decide_true, decide_false, Bool.not_true, Bool.not_false, setAll, List.map_cons, List.map_nil, truD, Bool.true_eq_false, Bool.false_eq_true, Option.bind_some, true_and, and_true, List.replicate, startR, List.cons_append, List.nil_append, Nat.sub_self, reduceIte, ↓reduceIte, isNon, LIM_eq, and_self, List.map_append, List.length_map, Int.toNat_natCast, Nat.zero_le, Nat.reduceLeDiff, Int.reduceNeg, Int.reduceLE, Int.reduceLT, Int.zero_add, ran1_int, ran2_int, noEx, eq_self, dI, dP, dPs]
        · show SO.nx [x0, .d tokD, .d (.int P), .d (.int Q), .d (.int I), x5, x6, x7, x8, x9, x10, .d (.int a), x12, x13, x14, .own (wid p (accL p A (i + 1))), .own (wid p fun k => if k = i * i * A % p then accQ p A i (i * i * A % p) + 1 else accQ p A i k), x17, x18, x19, x20, x21, x22, x23, x24, x25, x26, x27] g' = _
          rw [acc_step (W := accQ p A i) (v := 1) (m := i * i * A % p) (f := accQ p A) (i := i + 1) fun k => rfl])
  rw [upTo_len] at hw
  exact ⟨y, hw⟩
theorem t33 {A : Nat} {a : Int} (hp : p ∈ P7) (hP : P = (p : Int)) (ha : a % P = (A : Int)) : S_law_33 [x0, .d tokD, .d (.int P), .d (.int Q), x4, x5, x6, x7, x8, x9, x10, .d (.int a), x12, x13, x14, .d (.list (wid p (accL p A p))), .d (.list (wid p (accQ p A p))), x17, x18, x19, x20, x21, x22, x23, x24, x25, x26, x27] g = .nx [x0, .d tokD, .d (.int P), .d (.int Q), x4, x5, x6, x7, x8, x9, x10, .d (.int a), x12, x13, x14, .d (.list (wid p (accL p A p))), .d (.list (wid p (accQ p A p))), x17, x18, x19, x20, x21, x22, x23, x24, x25, x26, x27] g := by
  obtain ⟨hp3, hp19⟩ := p7_b p hp
  have h1 := m_sum_of_signs_eq (g := g) hp hP ha
  have h2 := m_sum_of_squares_eq (g := g) hp hP ha
  have h3 := m__law_settled_eq (g := g) (p := p) (W := accL p A p) (by omega) (by omega)
  rw [rowD_congr fun k _ => accL_gs] at h3
  have h4 := m__law_settled_eq (g := g) (p := p) (W := accQ p A p) (by omega) (by omega)
  rw [rowD_congr fun k _ => accQ_sq] at h4
  have n1 := ne_row (g := g) (p := p) (r := gs p A) (s := gs p A) fun _ _ => rfl
  have n2 := ne_row (g := g) (p := p) (r := Sq p A) (s := Sq p A) fun _ _ => rfl
  generalize rowD p (gs p A) = R1 at *
  generalize rowD p (Sq p A) = R2 at *
  generalize wid p (accL p A p) = L1 at *
  generalize wid p (accQ p A p) = L2 at *
  simp (disch := omega) only [S_law_33, h1, h2, h3, h4, n1, n2, eV_ap, eC_ap, eBin_ap, eNeg_ap, tVal_ap, eIsN_ap, eNotN_ap, eChain_ap, tAndF_ap, tOrF_ap, tNotF_ap, tTru_ap, eAnd_ap, eOr_ap, eNot_ap, eIf_ap, aNil_ap, aCons_ap, eTup_ap, eLst_ap, oNone_ap, oSome_ap, eSl_ap, eCall_ap, iLst_ap, iTpl_ap, iRan2_apN, eOf_ap, oLst_ap, oCat_ap, oRep_ap, oSl_ap, oList_ap, oComp_ap, tYesF_ap, sNil_ap, sSeq_th, sBrk_ap, sCnt_ap, sExpr_ap, sRet_ap, sRetN_ap, sIf_ap, sSet_ap, sSetO_ap, sAsg_ap, sPar_ap, sPar3_ap, sAug_ap, sApp_ap, sExt_ap, sSetIx_ap, sFrz_ap, eIxO_ap, eLenO_ap, eIxA_ap, eLenA_ap, vOf_ap, vCons_ap, vOwn_ap, vOwn2_ap, sTup_ap, iSeq_ap, sRaise_ap, sTry_ap, eExF_ap, tIfF_ap, eRev_ap, eRevA_ap, eRevF_ap, th_nx, th_rt, th_bk, th_ct, th_exc, bind_ok, bind_exc, go_ok, go_exc, opAdd_int, opSub_int, opMul_a, opMul_b, opDiv_pos, opDiv_wide, opMod_pos, opI_int, opEq_int, opNe_int, opEq_bool, opNe_bool, atI_0, atI_1, atI_2, atI_3, opIx_list, opIx_tuple, iRan1_ap, bLen_list, bLen_tuple, bInt_int, bAbs_int, bName, bNil, bCons, bTup, List.getElem?_cons_zero, List.getElem?_cons_succ, List.set_cons_zero, List.set_cons_succ, List.length_cons, List.length_nil, noTok, if_true, if_false, decide_true, decide_false, Bool.not_true, Bool.not_false, setAll, List.map_cons, List.map_nil, truD, Bool.true_eq_false, Bool.false_eq_true, Option.bind_some, true_and, and_true, List.replicate, startR, List.cons_append, List.nil_append, Nat.sub_self, reduceIte, ↓reduceIte, isNon, LIM_eq, and_self, List.map_append, List.length_map, Int.toNat_natCast, Nat.zero_le, Nat.reduceLeDiff, Int.reduceNeg, Int.reduceLE, Int.reduceLT, Int.zero_add, ran1_int, ran2_int, noEx, eq_self, dI, dP, dPs]
end
end K19
namespace K19
open PySem
open PySem.Spec
open PyProof.Rows
open L2
open DL
section
variable {g : G}
theorem m_pick_eq {row : List Int} {g : G} (hn : row ≠ []) (hl : row.length ≤ 1000) : ∃ x g', x ∈ row ∧ m__law_pick [tokD, dI row] g = .ok (.int x) g' := by
  have h0 : 0 < row.length := List.length_pos_iff.mpr hn
  obtain ⟨r, g', e, r0, r1⟩ := take_ok (row.length : Int) g (by omega)
  have hr : r.toNat < row.length := by omega
  refine ⟨row[r.toNat], g', List.getElem_mem hr, ?_⟩
  have ea : atI (row.map PyData.int) r = some (.int row[r.toNat]) := by
    rw [atI_n r0, List.getElem?_map, List.getElem?_eq_getElem hr]
    rfl
  refine m_rt (np := 2) rfl ?_
  simp (disch := omega) only [sem__law_pick, S__law_pick_1, e, ea, eV_ap, eC_ap, eBin_ap, eNeg_ap, tVal_ap, eIsN_ap, eNotN_ap, eChain_ap, tAndF_ap, tOrF_ap, tNotF_ap, tTru_ap, eAnd_ap, eOr_ap, eNot_ap, eIf_ap, aNil_ap, aCons_ap, eTup_ap, eLst_ap, oNone_ap, oSome_ap, eSl_ap, eCall_ap, iLst_ap, iTpl_ap, iRan2_apN, eOf_ap, oLst_ap, oCat_ap, oRep_ap, oSl_ap, oList_ap, oComp_ap, tYesF_ap, sNil_ap, sSeq_th, sBrk_ap, sCnt_ap, sExpr_ap, sRet_ap, sRetN_ap, sIf_ap, sSet_ap, sSetO_ap, sAsg_ap, sPar_ap, sPar3_ap, sAug_ap, sApp_ap, sExt_ap, sSetIx_ap, sFrz_ap, eIxO_ap, eLenO_ap, eIxA_ap, eLenA_ap, vOf_ap, vCons_ap, vOwn_ap, vOwn2_ap, sTup_ap, iSeq_ap, sRaise_ap, sTry_ap, eExF_ap, tIfF_ap, eRev_ap, eRevA_ap, eRevF_ap, th_nx, th_rt, th_bk, th_ct, th_exc, bind_ok, bind_exc, go_ok, go_exc, opAdd_int, opSub_int, opMul_a, opMul_b, opDiv_pos, opDiv_wide, opMod_pos, opI_int, opEq_int, opNe_int, opEq_bool, opNe_bool, atI_0, atI_1, atI_2, atI_3, opIx_list, opIx_tuple, iRan1_ap, bLen_list, bLen_tuple, bInt_int, bAbs_int, bName, bNil, bCons, bTup, List.getElem?_cons_zero, List.getElem?_cons_succ, List.set_cons_zero, List.set_cons_succ, List.length_cons, List.length_nil, noTok, if_true, if_false, decide_true, decide_false, Bool.not_true, Bool.not_false, setAll, List.map_cons, List.map_nil, truD, Bool.true_eq_false, Bool.false_eq_true, Option.bind_some, true_and, and_true, List.replicate, startR, List.cons_append, List.nil_append, Nat.sub_self, reduceIte, ↓reduceIte, isNon, LIM_eq, and_self, List.map_append, List.length_map, Int.toNat_natCast, Nat.zero_le, Nat.reduceLeDiff, Int.reduceNeg, Int.reduceLE, Int.reduceLT, Int.zero_add, ran1_int, ran2_int, noEx, eq_self, dI, dP, dPs]
theorem star_eq {p : Nat} {P : Int} (hP : P = (p : Int)) : (if P % 4 = 1 then P else 0 - P) = star p := by
  unfold star
  by_cases h : p % 4 = 1
  · rw [if_pos h, if_pos (by omega), hP]
  · rw [if_neg h, if_neg (by omega), hP]
    omega
theorem m_starred_eq {p : Nat} {P : Int} (hP : P = (p : Int)) : m_starred [.int P] g = .ok (.int (star p)) g := by
  refine m_rt (np := 1) rfl ?_
  rw [← star_eq hP]
  by_cases h : P % 4 = 1
  · rw [if_pos h]
    simp (disch := omega) only [sem_starred, S_starred_1, h, eV_ap, eC_ap, eBin_ap, eNeg_ap, tVal_ap, eIsN_ap, eNotN_ap, eChain_ap, tAndF_ap, tOrF_ap, tNotF_ap, tTru_ap, eAnd_ap, eOr_ap, eNot_ap, eIf_ap, aNil_ap, aCons_ap, eTup_ap, eLst_ap, oNone_ap, oSome_ap, eSl_ap, eCall_ap, iLst_ap, iTpl_ap, iRan2_apN, eOf_ap, oLst_ap, oCat_ap, oRep_ap, oSl_ap, oList_ap, oComp_ap, tYesF_ap, sNil_ap, sSeq_th, sBrk_ap, sCnt_ap, sExpr_ap, sRet_ap, sRetN_ap, sIf_ap, sSet_ap, sSetO_ap, sAsg_ap, sPar_ap, sPar3_ap, sAug_ap, sApp_ap, sExt_ap, sSetIx_ap, sFrz_ap, eIxO_ap, eLenO_ap, eIxA_ap, eLenA_ap, vOf_ap, vCons_ap, vOwn_ap, vOwn2_ap, sTup_ap, iSeq_ap, sRaise_ap, sTry_ap, eExF_ap, tIfF_ap, eRev_ap, eRevA_ap, eRevF_ap, th_nx, th_rt, th_bk, th_ct, th_exc, bind_ok, bind_exc, go_ok, go_exc, opAdd_int, opSub_int, opMul_a, opMul_b, opDiv_pos, opDiv_wide, opMod_pos, opI_int, opEq_int, opNe_int, opEq_bool, opNe_bool, atI_0, atI_1, atI_2, atI_3, opIx_list, opIx_tuple, iRan1_ap, bLen_list, bLen_tuple, bInt_int, bAbs_int, bName, bNil, bCons, bTup, List.getElem?_cons_zero, List.getElem?_cons_succ, List.set_cons_zero, List.set_cons_succ, List.length_cons, List.length_nil, noTok, if_true, if_false, decide_true, decide_false, Bool.not_true, Bool.not_false, setAll, List.map_cons, List.map_nil, truD, Bool.true_eq_false, Bool.false_eq_true, Option.bind_some, true_and, and_true, List.replicate, startR, List.cons_append, List.nil_append, Nat.sub_self, reduceIte, ↓reduceIte, isNon, LIM_eq, and_self, List.map_append, List.length_map, Int.toNat_natCast, Nat.zero_le, Nat.reduceLeDiff, Int.reduceNeg, Int.reduceLE, Int.reduceLT, Int.zero_add, ran1_int, ran2_int, noEx, eq_self, dI, dP, dPs]
  · rw [if_neg h]
    simp (disch := omega) only [sem_starred, S_starred_1, h, eV_ap, eC_ap, eBin_ap, eNeg_ap, tVal_ap, eIsN_ap, eNotN_ap, eChain_ap, tAndF_ap, tOrF_ap, tNotF_ap, tTru_ap, eAnd_ap, eOr_ap, eNot_ap, eIf_ap, aNil_ap, aCons_ap, eTup_ap, eLst_ap, oNone_ap, oSome_ap, eSl_ap, eCall_ap, iLst_ap, iTpl_ap, iRan2_apN, eOf_ap, oLst_ap, oCat_ap, oRep_ap, oSl_ap, oList_ap, oComp_ap, tYesF_ap, sNil_ap, sSeq_th, sBrk_ap, sCnt_ap, sExpr_ap, sRet_ap, sRetN_ap, sIf_ap, sSet_ap, sSetO_ap, sAsg_ap, sPar_ap, sPar3_ap, sAug_ap, sApp_ap, sExt_ap, sSetIx_ap, sFrz_ap, eIxO_ap, eLenO_ap, eIxA_ap, eLenA_ap, vOf_ap, vCons_ap, vOwn_ap, vOwn2_ap, sTup_ap, iSeq_ap, sRaise_ap, sTry_ap, eExF_ap, tIfF_ap, eRev_ap, eRevA_ap, eRevF_ap, th_nx, th_rt, th_bk, th_ct, th_exc, bind_ok, bind_exc, go_ok, go_exc, opAdd_int, opSub_int, opMul_a, opMul_b, opDiv_pos, opDiv_wide, opMod_pos, opI_int, opEq_int, opNe_int, opEq_bool, opNe_bool, atI_0, atI_1, atI_2, atI_3, opIx_list, opIx_tuple, iRan1_ap, bLen_list, bLen_tuple, bInt_int, bAbs_int, bName, bNil, bCons, bTup, List.getElem?_cons_zero, List.getElem?_cons_succ, List.set_cons_zero, List.set_cons_succ, List.length_cons, List.length_nil, noTok, if_true, if_false, decide_true, decide_false, Bool.not_true, Bool.not_false, setAll, List.map_cons, List.map_nil, truD, Bool.true_eq_false, Bool.false_eq_true, Option.bind_some, true_and, and_true, List.replicate, startR, List.cons_append, List.nil_append, Nat.sub_self, reduceIte, ↓reduceIte, isNon, LIM_eq, and_self, List.map_append, List.length_map, Int.toNat_natCast, Nat.zero_le, Nat.reduceLeDiff, Int.reduceNeg, Int.reduceLE, Int.reduceLT, Int.zero_add, ran1_int, ran2_int, noEx, eq_self, dI, dP, dPs]
theorem wid_list {n : Nat} {f : Nat → Int} {F : Int → Int} : ((List.range n).map f).map (fun x => PyData.int (F x)) = wid n fun k => F (f k) := by
  rw [List.map_map]
  rfl
theorem m_turned_sign_eq {p q : Nat} {P Q : Int} (hp : p ∈ P7) (hq : q ∈ Q11) (hpq : p ≠ q) (hP : P = (p : Int)) (hQ : Q = (q : Int)) : m_turned_sign [.int P, .int Q] g = .ok (.int (J p q)) g := by
  obtain ⟨hp3, hp19⟩ := p7_b p hp
  obtain ⟨hq3, hq37, hq2⟩ := q11_b q hq
  have hck := m_check_p (g := g) hp hP
  have h1 := m_sum_of_signs_eq (g := g) (a := 1) (A := 1) hp hP (by rw [Int.emod_eq_of_lt (by omega) (by omega)]; rfl)
  have h2 := m_power_eq (g := g) (K := q) (r := gs p 1) (n := 2) hp3 (by omega) (lit_abs hp) (by omega) (by
    have : 12 * (q + 1) ≤ 12 * 38 := Nat.mul_le_mul_left _ (by omega)
    omega)
  rw [← hQ] at h2
  obtain ⟨h, hh⟩ : ∃ h, h = (q - 1) / 2 := ⟨_, rfl⟩
  have eq2 : q = 2 * h + 1 := by omega
  have e1 : Eqr p (pwR p (gs p 1) q) (fun k => star p ^ h * gs p 1 k) := by
    have := pw_odd (h := h) (by omega) (gs_sq hp)
    rw [← eq2] at this
    exact this
  rw [rowD_congr e1] at h2
  have h3 := m_rest_by_eq (g := g) (p := p) (r := fun k => star p ^ h * gs p 1 k) (q := Q) (by omega) (by omega)
  have h4 := m_rest_by_eq (g := g) (p := p) (r := gs p 1) (q := Q) (by omega) (by omega)
  have h5 := m_rest_by_eq (g := g) (p := p) (r := fun k => 0 - gs p 1 k) (q := Q) (by omega) (by omega)
  have c := List.all_eq_true.mp (at7 c5_ok hp) q hq
  rw [Bool.or_eq_true, Bool.and_eq_true, Bool.or_eq_true, Bool.and_eq_true] at c
  obtain ⟨ca, cb⟩ : ((List.range (p - 1)).all fun k => decide ((star p ^ ((q - 1) / 2) * lit p k) % (q : Int) = (J p q * lit p k) % (q : Int))) = true ∧ (decide (J p q = 1) = true ∨ (decide (J p q = -1) = true ∧ ((List.range (p - 1)).any fun k => decide (¬ (-1 * lit p k) % (q : Int) = lit p k % (q : Int))) = true)) := by
    rcases c with c | c
    · exact absurd (of_decide_eq_true c) hpq
    · exact c
  have ca' : ∀ k, k < p - 1 → (star p ^ h * gs p 1 k) % Q = (J p q * gs p 1 k) % Q := fun k hk => by
    have := of_decide_eq_true (atR ca hk)
    rw [gs_lit hp k hk, hh, hQ]
    exact this
  have hC : eOf C_turned_sign_1 [.d (.int P), .d (.int Q), .d (rowD p fun k => (star p ^ h * gs p 1 k) % Q), .d (rowD p fun k => gs p 1 k % Q), .un, .un] g = .ok (.list (wid (p - 1) fun k => 0 - gs p 1 k)) g := by
    have := comp_mapA PyData.int (vs := [5]) (fi := iSeq (eCall m_sum_of_signs (aCons (eV 0) (aCons (eC (.int 1)) aNil)))) (b := bName 5) (fe := eBin opSub (eC (.int 0)) (eV 5)) (ρ := [.d (.int P), .d (.int Q), .d (rowD p fun k => (star p ^ h * gs p 1 k) % Q), .d (rowD p fun k => gs p 1 k % Q), .un, .un]) (g := g) (xs := (List.range (p - 1)).map (gs p 1)) (fun x => .int (0 - x)) (by
      rw [← wid_ints]
      change m_sum_of_signs [.int P, .int 1] g = .ok (.tuple (wid (p - 1) (gs p 1))) g at h1
      generalize (rowD p fun k => (star p ^ h * gs p 1 k) % Q) = R1 at *
      generalize (rowD p fun k => gs p 1 k % Q) = R2 at *
      generalize wid (p - 1) (gs p 1) = L at *
      simp (disch := omega) only [h1, eV_ap, eC_ap, eBin_ap, eNeg_ap, tVal_ap, eIsN_ap, eNotN_ap, eChain_ap, tAndF_ap, tOrF_ap, tNotF_ap, tTru_ap, eAnd_ap, eOr_ap, eNot_ap, eIf_ap, aNil_ap, aCons_ap, eTup_ap, eLst_ap, oNone_ap, oSome_ap, eSl_ap, eCall_ap, iLst_ap, iTpl_ap, iRan2_apN, eOf_ap, oLst_ap, oCat_ap, oRep_ap, oSl_ap, oList_ap, oComp_ap, tYesF_ap, sNil_ap, sSeq_th, sBrk_ap, sCnt_ap, sExpr_ap, sRet_ap, sRetN_ap, sIf_ap, sSet_ap, sSetO_ap, sAsg_ap, sPar_ap, sPar3_ap, sAug_ap, sApp_ap, sExt_ap, sSetIx_ap, sFrz_ap, eIxO_ap, eLenO_ap, eIxA_ap, eLenA_ap, vOf_ap, vCons_ap, vOwn_ap, vOwn2_ap, sTup_ap, iSeq_ap, sRaise_ap, sTry_ap, eExF_ap, tIfF_ap, eRev_ap, eRevA_ap, eRevF_ap, th_nx, th_rt, th_bk, th_ct, th_exc, bind_ok, bind_exc, go_ok, go_exc, opAdd_int, opSub_int, opMul_a, opMul_b, opDiv_pos, opDiv_wide, opMod_pos, opI_int, opEq_int, opNe_int, opEq_bool, opNe_bool, atI_0, atI_1, atI_2, atI_3, opIx_list, opIx_tuple, iRan1_ap, bLen_list, bLen_tuple, bInt_int, bAbs_int, bName, bNil, bCons, bTup, List.getElem?_cons_zero, List.getElem?_cons_succ, List.set_cons_zero, List.set_cons_succ, List.length_cons, List.length_nil, noTok, if_true, if_false, decide_true, decide_false, Bool.not_true, Bool.not_false, setAll, List.map_cons, List.map_nil, truD, Bool.true_eq_false, Bool.false_eq_true, Option.bind_some, true_and, and_true, List.replicate, startR, List.cons_append, List.nil_append, Nat.sub_self, reduceIte, ↓reduceIte, isNon, LIM_eq, and_self, List.map_append, List.length_map, Int.toNat_natCast, Nat.zero_le, Nat.reduceLeDiff, Int.reduceNeg, Int.reduceLE, Int.reduceLT, Int.zero_add, ran1_int, ran2_int, noEx, eq_self, dI, dP, dPs]) (by rw [List.length_map, List.length_range]; omega) (fun x hx => by
      refine ⟨[.d (.int P), .d (.int Q), .d (rowD p fun k => (star p ^ h * gs p 1 k) % Q), .d (rowD p fun k => gs p 1 k % Q), .un, .d (.int x)], rfl, ?_, rfl⟩
      generalize (rowD p fun k => (star p ^ h * gs p 1 k) % Q) = R1 at *
      generalize (rowD p fun k => gs p 1 k % Q) = R2 at *
      simp (disch := omega) only [eV_ap, eC_ap, eBin_ap, eNeg_ap, tVal_ap, eIsN_ap, eNotN_ap, eChain_ap, tAndF_ap, tOrF_ap, tNotF_ap, tTru_ap, eAnd_ap, eOr_ap, eNot_ap, eIf_ap, aNil_ap, aCons_ap, eTup_ap, eLst_ap, oNone_ap, oSome_ap, eSl_ap, eCall_ap, iLst_ap, iTpl_ap, iRan2_apN, eOf_ap, oLst_ap, oCat_ap, oRep_ap, oSl_ap, oList_ap, oComp_ap, tYesF_ap, sNil_ap, sSeq_th, sBrk_ap, sCnt_ap, sExpr_ap, sRet_ap, sRetN_ap, sIf_ap, sSet_ap, sSetO_ap, sAsg_ap, sPar_ap, sPar3_ap, sAug_ap, sApp_ap, sExt_ap, sSetIx_ap, sFrz_ap, eIxO_ap, eLenO_ap, eIxA_ap, eLenA_ap, vOf_ap, vCons_ap, vOwn_ap, vOwn2_ap, sTup_ap, iSeq_ap, sRaise_ap, sTry_ap, eExF_ap, tIfF_ap, eRev_ap, eRevA_ap, eRevF_ap, th_nx, th_rt, th_bk, th_ct, th_exc, bind_ok, bind_exc, go_ok, go_exc, opAdd_int, opSub_int, opMul_a, opMul_b, opDiv_pos, opDiv_wide, opMod_pos, opI_int, opEq_int, opNe_int, opEq_bool, opNe_bool, atI_0, atI_1, atI_2, atI_3, opIx_list, opIx_tuple, iRan1_ap, bLen_list, bLen_tuple, bInt_int, bAbs_int, bName, bNil, bCons, bTup, List.getElem?_cons_zero, List.getElem?_cons_succ, List.set_cons_zero, List.set_cons_succ, List.length_cons, List.length_nil, noTok, if_true, if_false, decide_true, decide_false, Bool.not_true, Bool.not_false, setAll, List.map_cons, List.map_nil, truD, Bool.true_eq_false, Bool.false_eq_true, Option.bind_some, true_and, and_true, List.replicate, startR, List.cons_append, List.nil_append, Nat.sub_self, reduceIte, ↓reduceIte, isNon, LIM_eq, and_self, List.map_append, List.length_map, Int.toNat_natCast, Nat.zero_le, Nat.reduceLeDiff, Int.reduceNeg, Int.reduceLE, Int.reduceLT, Int.zero_add, ran1_int, ran2_int, noEx, eq_self, dI, dP, dPs])
    show (C_turned_sign_1 _ g).bind _ = _
    rw [show C_turned_sign_1 = oComp [5] (iSeq (eCall m_sum_of_signs (aCons (eV 0) (aCons (eC (.int 1)) aNil)))) (bName 5) tYesF (eBin opSub (eC (.int 0)) (eV 5)) from rfl, this, bind_ok, wid_list (F := fun x => 0 - x)]
  have ft : bTuple [.list (wid (p - 1) fun k => 0 - gs p 1 k)] g = .ok (rowD p fun k => 0 - gs p 1 k) g := rfl
  refine m_rt (np := 2) rfl ?_
  refine Eq.trans (b := sem_turned_sign [.d (.int P), .d (.int Q), .un, .un, .un, .un] g) rfl ?_
  refine seq_nx (ρ1 := [.d (.int P), .d (.int Q), .un, .un, .un, .un]) (g1 := g) (by simp (disch := omega) only [S_turned_sign_1, hck, eV_ap, eC_ap, eBin_ap, eNeg_ap, tVal_ap, eIsN_ap, eNotN_ap, eChain_ap, tAndF_ap, tOrF_ap, tNotF_ap, tTru_ap, eAnd_ap, eOr_ap, eNot_ap, eIf_ap, aNil_ap, aCons_ap, eTup_ap, eLst_ap, oNone_ap, oSome_ap, eSl_ap, eCall_ap, iLst_ap, iTpl_ap, iRan2_apN, eOf_ap, oLst_ap, oCat_ap, oRep_ap, oSl_ap, oList_ap, oComp_ap, tYesF_ap, sNil_ap, sSeq_th, sBrk_ap, sCnt_ap, sExpr_ap, sRet_ap, sRetN_ap, sIf_ap, sSet_ap, sSetO_ap, sAsg_ap, sPar_ap, sPar3_ap, sAug_ap, sApp_ap, sExt_ap, sSetIx_ap, sFrz_ap, eIxO_ap, eLenO_ap, eIxA_ap, eLenA_ap, vOf_ap, vCons_ap, vOwn_ap, vOwn2_ap, sTup_ap, iSeq_ap, sRaise_ap, sTry_ap, eExF_ap, tIfF_ap, eRev_ap, eRevA_ap, eRevF_ap, th_nx, th_rt, th_bk, th_ct, th_exc, bind_ok, bind_exc, go_ok, go_exc, opAdd_int, opSub_int, opMul_a, opMul_b, opDiv_pos, opDiv_wide, opMod_pos, opI_int, opEq_int, opNe_int, opEq_bool, opNe_bool, atI_0, atI_1, atI_2, atI_3, opIx_list, opIx_tuple, iRan1_ap, bLen_list, bLen_tuple, bInt_int, bAbs_int, bName, bNil, bCons, bTup, List.getElem?_cons_zero, List.getElem?_cons_succ, List.set_cons_zero, List.set_cons_succ, List.length_cons, List.length_nil, noTok, if_true, if_false, decide_true, decide_false, Bool.not_true, Bool.not_false, setAll, List.map_cons, List.map_nil, truD, Bool.true_eq_false, Bool.false_eq_true, Option.bind_some, true_and, and_true, List.replicate, startR, List.cons_append, List.nil_append, Nat.sub_self, reduceIte, ↓reduceIte, isNon, LIM_eq, and_self, List.map_append, List.length_map, Int.toNat_natCast, Nat.zero_le, Nat.reduceLeDiff, Int.reduceNeg, Int.reduceLE, Int.reduceLT, Int.zero_add, ran1_int, ran2_int, noEx, eq_self, dI, dP, dPs]) ?_
  refine seq_nx (ρ1 := [.d (.int P), .d (.int Q), .d (rowD p fun k => (star p ^ h * gs p 1 k) % Q), .un, .un, .un]) (g1 := g) (by
    generalize (rowD p fun k => (star p ^ h * gs p 1 k) % Q) = R1 at *
    generalize (rowD p fun k => star p ^ h * gs p 1 k) = R2 at *
    generalize rowD p (gs p 1) = R3 at *
    simp (disch := omega) only [S_turned_sign_2, h1, h2, h3, eV_ap, eC_ap, eBin_ap, eNeg_ap, tVal_ap, eIsN_ap, eNotN_ap, eChain_ap, tAndF_ap, tOrF_ap, tNotF_ap, tTru_ap, eAnd_ap, eOr_ap, eNot_ap, eIf_ap, aNil_ap, aCons_ap, eTup_ap, eLst_ap, oNone_ap, oSome_ap, eSl_ap, eCall_ap, iLst_ap, iTpl_ap, iRan2_apN, eOf_ap, oLst_ap, oCat_ap, oRep_ap, oSl_ap, oList_ap, oComp_ap, tYesF_ap, sNil_ap, sSeq_th, sBrk_ap, sCnt_ap, sExpr_ap, sRet_ap, sRetN_ap, sIf_ap, sSet_ap, sSetO_ap, sAsg_ap, sPar_ap, sPar3_ap, sAug_ap, sApp_ap, sExt_ap, sSetIx_ap, sFrz_ap, eIxO_ap, eLenO_ap, eIxA_ap, eLenA_ap, vOf_ap, vCons_ap, vOwn_ap, vOwn2_ap, sTup_ap, iSeq_ap, sRaise_ap, sTry_ap, eExF_ap, tIfF_ap, eRev_ap, eRevA_ap, eRevF_ap, th_nx, th_rt, th_bk, th_ct, th_exc, bind_ok, bind_exc, go_ok, go_exc, opAdd_int, opSub_int, opMul_a, opMul_b, opDiv_pos, opDiv_wide, opMod_pos, opI_int, opEq_int, opNe_int, opEq_bool, opNe_bool, atI_0, atI_1, atI_2, atI_3, opIx_list, opIx_tuple, iRan1_ap, bLen_list, bLen_tuple, bInt_int, bAbs_int, bName, bNil, bCons, bTup, List.getElem?_cons_zero, List.getElem?_cons_succ, List.set_cons_zero, List.set_cons_succ, List.length_cons, List.length_nil, noTok, if_true, if_false, decide_true, decide_false, Bool.not_true, Bool.not_false, setAll, List.map_cons, List.map_nil, truD, Bool.true_eq_false, Bool.false_eq_true, Option.bind_some, true_and, and_true, List.replicate, startR, List.cons_append, List.nil_append, Nat.sub_self, reduceIte, ↓reduceIte, isNon, LIM_eq, and_self, List.map_append, List.length_map, Int.toNat_natCast, Nat.zero_le, Nat.reduceLeDiff, Int.reduceNeg, Int.reduceLE, Int.reduceLT, Int.zero_add, ran1_int, ran2_int, noEx, eq_self, dI, dP, dPs]) ?_
  refine seq_nx (ρ1 := [.d (.int P), .d (.int Q), .d (rowD p fun k => (star p ^ h * gs p 1 k) % Q), .d (rowD p fun k => gs p 1 k % Q), .un, .un]) (g1 := g) (by
    generalize (rowD p fun k => (star p ^ h * gs p 1 k) % Q) = R1 at *
    generalize (rowD p fun k => gs p 1 k % Q) = R2 at *
    generalize rowD p (gs p 1) = R3 at *
    simp (disch := omega) only [S_turned_sign_3, h1, h4, eV_ap, eC_ap, eBin_ap, eNeg_ap, tVal_ap, eIsN_ap, eNotN_ap, eChain_ap, tAndF_ap, tOrF_ap, tNotF_ap, tTru_ap, eAnd_ap, eOr_ap, eNot_ap, eIf_ap, aNil_ap, aCons_ap, eTup_ap, eLst_ap, oNone_ap, oSome_ap, eSl_ap, eCall_ap, iLst_ap, iTpl_ap, iRan2_apN, eOf_ap, oLst_ap, oCat_ap, oRep_ap, oSl_ap, oList_ap, oComp_ap, tYesF_ap, sNil_ap, sSeq_th, sBrk_ap, sCnt_ap, sExpr_ap, sRet_ap, sRetN_ap, sIf_ap, sSet_ap, sSetO_ap, sAsg_ap, sPar_ap, sPar3_ap, sAug_ap, sApp_ap, sExt_ap, sSetIx_ap, sFrz_ap, eIxO_ap, eLenO_ap, eIxA_ap, eLenA_ap, vOf_ap, vCons_ap, vOwn_ap, vOwn2_ap, sTup_ap, iSeq_ap, sRaise_ap, sTry_ap, eExF_ap, tIfF_ap, eRev_ap, eRevA_ap, eRevF_ap, th_nx, th_rt, th_bk, th_ct, th_exc, bind_ok, bind_exc, go_ok, go_exc, opAdd_int, opSub_int, opMul_a, opMul_b, opDiv_pos, opDiv_wide, opMod_pos, opI_int, opEq_int, opNe_int, opEq_bool, opNe_bool, atI_0, atI_1, atI_2, atI_3, opIx_list, opIx_tuple, iRan1_ap, bLen_list, bLen_tuple, bInt_int, bAbs_int, bName, bNil, bCons, bTup, List.getElem?_cons_zero, List.getElem?_cons_succ, List.set_cons_zero, List.set_cons_succ, List.length_cons, List.length_nil, noTok, if_true, if_false, decide_true, decide_false, Bool.not_true, Bool.not_false, setAll, List.map_cons, List.map_nil, truD, Bool.true_eq_false, Bool.false_eq_true, Option.bind_some, true_and, and_true, List.replicate, startR, List.cons_append, List.nil_append, Nat.sub_self, reduceIte, ↓reduceIte, isNon, LIM_eq, and_self, List.map_append, List.length_map, Int.toNat_natCast, Nat.zero_le, Nat.reduceLeDiff, Int.reduceNeg, Int.reduceLE, Int.reduceLT, Int.zero_add, ran1_int, ran2_int, noEx, eq_self, dI, dP, dPs]) ?_
  refine seq_nx (ρ1 := [.d (.int P), .d (.int Q), .d (rowD p fun k => (star p ^ h * gs p 1 k) % Q), .d (rowD p fun k => gs p 1 k % Q), .d (rowD p fun k => (0 - gs p 1 k) % Q), .un]) (g1 := g) (by
    generalize (rowD p fun k => (star p ^ h * gs p 1 k) % Q) = R1 at *
    generalize (rowD p fun k => gs p 1 k % Q) = R2 at *
    generalize (rowD p fun k => (0 - gs p 1 k) % Q) = R4 at *
    generalize (rowD p fun k => 0 - gs p 1 k) = R5 at *
    generalize (wid (p - 1) fun k => 0 - gs p 1 k) = L5 at *
    simp (disch := omega) only [S_turned_sign_4, hC, ft, h5, eV_ap, eC_ap, eBin_ap, eNeg_ap, tVal_ap, eIsN_ap, eNotN_ap, eChain_ap, tAndF_ap, tOrF_ap, tNotF_ap, tTru_ap, eAnd_ap, eOr_ap, eNot_ap, eIf_ap, aNil_ap, aCons_ap, eTup_ap, eLst_ap, oNone_ap, oSome_ap, eSl_ap, eCall_ap, iLst_ap, iTpl_ap, iRan2_apN, oLst_ap, oCat_ap, oRep_ap, oSl_ap, oList_ap, oComp_ap, tYesF_ap, sNil_ap, sSeq_th, sBrk_ap, sCnt_ap, sExpr_ap, sRet_ap, sRetN_ap, sIf_ap, sSet_ap, sSetO_ap, sAsg_ap, sPar_ap, sPar3_ap, sAug_ap, sApp_ap, sExt_ap, sSetIx_ap, sFrz_ap, eIxO_ap, eLenO_ap, eIxA_ap, eLenA_ap, vOf_ap, vCons_ap, vOwn_ap, vOwn2_ap, sTup_ap, iSeq_ap, sRaise_ap, sTry_ap, eExF_ap, tIfF_ap, eRev_ap, eRevA_ap, eRevF_ap, th_nx, th_rt, th_bk, th_ct, th_exc, bind_ok, bind_exc, go_ok, go_exc, opAdd_int, opSub_int, opMul_a, opMul_b, opDiv_pos, opDiv_wide, opMod_pos, opI_int, opEq_int, opNe_int, opEq_bool, opNe_bool, atI_0, atI_1, atI_2, atI_3, opIx_list, opIx_tuple, iRan1_ap, bLen_list, bLen_tuple, bInt_int, bAbs_int, bName, bNil, bCons, bTup, List.getElem?_cons_zero, List.getElem?_cons_succ, List.set_cons_zero, List.set_cons_succ, List.length_cons, List.length_nil, noTok, if_true, if_false, decide_true, decide_false, Bool.not_true, Bool.not_false, setAll, List.map_cons, List.map_nil, truD, Bool.true_eq_false, Bool.false_eq_true, Option.bind_some, true_and, and_true, List.replicate, startR, List.cons_append, List.nil_append, Nat.sub_self, reduceIte, ↓reduceIte, isNon, LIM_eq, and_self, List.map_append, List.length_map, Int.toNat_natCast, Nat.zero_le, Nat.reduceLeDiff, Int.reduceNeg, Int.reduceLE, Int.reduceLT, Int.zero_add, ran1_int, ran2_int, noEx, eq_self, dI, dP, dPs]) ?_
  rcases cb with cb | ⟨cb, cc⟩
  · have cb := of_decide_eq_true cb
    rw [cb] at ca' ⊢
    have q1 := eq_row (g := g) (p := p) (r := fun k => (star p ^ h * gs p 1 k) % Q) (s := fun k => gs p 1 k % Q) fun k hk => by
      have := ca' k hk
      rw [Int.one_mul] at this
      exact this
    generalize (rowD p fun k => (star p ^ h * gs p 1 k) % Q) = R1 at *
    generalize (rowD p fun k => gs p 1 k % Q) = R2 at *
    generalize (rowD p fun k => (0 - gs p 1 k) % Q) = R4 at *
    simp (disch := omega) only [S_turned_sign_5, S_turned_sign_6, q1, eV_ap, eC_ap, eBin_ap, eNeg_ap, tVal_ap, eIsN_ap, eNotN_ap, eChain_ap, tAndF_ap, tOrF_ap, tNotF_ap, tTru_ap, eAnd_ap, eOr_ap, eNot_ap, eIf_ap, aNil_ap, aCons_ap, eTup_ap, eLst_ap, oNone_ap, oSome_ap, eSl_ap, eCall_ap, iLst_ap, iTpl_ap, iRan2_apN, eOf_ap, oLst_ap, oCat_ap, oRep_ap, oSl_ap, oList_ap, oComp_ap, tYesF_ap, sNil_ap, sSeq_th, sBrk_ap, sCnt_ap, sExpr_ap, sRet_ap, sRetN_ap, sIf_ap, sSet_ap, sSetO_ap, sAsg_ap, sPar_ap, sPar3_ap, sAug_ap, sApp_ap, sExt_ap, sSetIx_ap, sFrz_ap, eIxO_ap, eLenO_ap, eIxA_ap, eLenA_ap, vOf_ap, vCons_ap, vOwn_ap, vOwn2_ap, sTup_ap, iSeq_ap, sRaise_ap, sTry_ap, eExF_ap, tIfF_ap, eRev_ap, eRevA_ap, eRevF_ap, th_nx, th_rt, th_bk, th_ct, th_exc, bind_ok, bind_exc, go_ok, go_exc, opAdd_int, opSub_int, opMul_a, opMul_b, opDiv_pos, opDiv_wide, opMod_pos, opI_int, opEq_int, opNe_int, opEq_bool, opNe_bool, atI_0, atI_1, atI_2, atI_3, opIx_list, opIx_tuple, iRan1_ap, bLen_list, bLen_tuple, bInt_int, bAbs_int, bName, bNil, bCons, bTup, List.getElem?_cons_zero, List.getElem?_cons_succ, List.set_cons_zero, List.set_cons_succ, List.length_cons, List.length_nil, noTok, if_true, if_false, decide_true, decide_false, Bool.not_true, Bool.not_false, setAll, List.map_cons, List.map_nil, truD, Bool.true_eq_false, Bool.false_eq_true, Option.bind_some, true_and, and_true, List.replicate, startR, List.cons_append, List.nil_append, Nat.sub_self, reduceIte, ↓reduceIte, isNon, LIM_eq, and_self, List.map_append, List.length_map, Int.toNat_natCast, Nat.zero_le, Nat.reduceLeDiff, Int.reduceNeg, Int.reduceLE, Int.reduceLT, Int.zero_add, ran1_int, ran2_int, noEx, eq_self, dI, dP, dPs]
  · have cb := of_decide_eq_true cb
    rw [cb] at ca' ⊢
    obtain ⟨k, hk, hne⟩ := List.any_eq_true.mp cc
    have hk := List.mem_range.mp hk
    have hne := of_decide_eq_true hne
    have q1 := eq_rowF (g := g) (p := p) (r := fun k => (star p ^ h * gs p 1 k) % Q) (s := fun k => gs p 1 k % Q) (k := k) hk (by
      show ¬ (star p ^ h * gs p 1 k) % Q = gs p 1 k % Q
      rw [ca' k hk, gs_lit hp k hk, hQ]
      exact hne)
    have q2 := eq_row (g := g) (p := p) (r := fun k => (star p ^ h * gs p 1 k) % Q) (s := fun k => (0 - gs p 1 k) % Q) fun k hk => by
      have := ca' k hk
      show (star p ^ h * gs p 1 k) % Q = (0 - gs p 1 k) % Q
      rw [this]
      congr 1
      omega
    generalize (rowD p fun k => (star p ^ h * gs p 1 k) % Q) = R1 at *
    generalize (rowD p fun k => gs p 1 k % Q) = R2 at *
    generalize (rowD p fun k => (0 - gs p 1 k) % Q) = R4 at *
    simp (disch := omega) only [S_turned_sign_5, S_turned_sign_7, S_turned_sign_8, q1, q2, eV_ap, eC_ap, eBin_ap, eNeg_ap, tVal_ap, eIsN_ap, eNotN_ap, eChain_ap, tAndF_ap, tOrF_ap, tNotF_ap, tTru_ap, eAnd_ap, eOr_ap, eNot_ap, eIf_ap, aNil_ap, aCons_ap, eTup_ap, eLst_ap, oNone_ap, oSome_ap, eSl_ap, eCall_ap, iLst_ap, iTpl_ap, iRan2_apN, eOf_ap, oLst_ap, oCat_ap, oRep_ap, oSl_ap, oList_ap, oComp_ap, tYesF_ap, sNil_ap, sSeq_th, sBrk_ap, sCnt_ap, sExpr_ap, sRet_ap, sRetN_ap, sIf_ap, sSet_ap, sSetO_ap, sAsg_ap, sPar_ap, sPar3_ap, sAug_ap, sApp_ap, sExt_ap, sSetIx_ap, sFrz_ap, eIxO_ap, eLenO_ap, eIxA_ap, eLenA_ap, vOf_ap, vCons_ap, vOwn_ap, vOwn2_ap, sTup_ap, iSeq_ap, sRaise_ap, sTry_ap, eExF_ap, tIfF_ap, eRev_ap, eRevA_ap, eRevF_ap, th_nx, th_rt, th_bk, th_ct, th_exc, bind_ok, bind_exc, go_ok, go_exc, opAdd_int, opSub_int, opMul_a, opMul_b, opDiv_pos, opDiv_wide, opMod_pos, opI_int, opEq_int, opNe_int, opEq_bool, opNe_bool, atI_0, atI_1, atI_2, atI_3, opIx_list, opIx_tuple, iRan1_ap, bLen_list, bLen_tuple, bInt_int, bAbs_int, bName, bNil, bCons, bTup, List.getElem?_cons_zero, List.getElem?_cons_succ, List.set_cons_zero, List.set_cons_succ, List.length_cons, List.length_nil, noTok, if_true, if_false, decide_true, decide_false, Bool.not_true, Bool.not_false, setAll, List.map_cons, List.map_nil, truD, Bool.true_eq_false, Bool.false_eq_true, Option.bind_some, true_and, and_true, List.replicate, startR, List.cons_append, List.nil_append, Nat.sub_self, reduceIte, ↓reduceIte, isNon, LIM_eq, and_self, List.map_append, List.length_map, Int.toNat_natCast, Nat.zero_le, Nat.reduceLeDiff, Int.reduceNeg, Int.reduceLE, Int.reduceLT, Int.zero_add, ran1_int, ran2_int, noEx, eq_self, dI, dP, dPs]
    rfl
end
section
variable {x0 x1 x2 x3 x4 x5 x6 x7 x8 x9 x10 x11 x12 x13 x14 x15 x16 x17 x18 x19 x20 x21 x22 x23 x24 x25 x26 x27 : SV} {g : G} {p q : Nat} {P Q : Int}
theorem t1 : ∃ (p q : Nat) (P Q : Int) (g' : G), p ∈ P7 ∧ q ∈ Q11 ∧ P = (p : Int) ∧ Q = (q : Int) ∧ S_law_1 [x0, .d tokD, x2, x3, x4, x5, x6, x7, x8, x9, x10, x11, x12, x13, x14, x15, x16, x17, x18, x19, x20, x21, x22, x23, x24, x25, x26, x27] g = .nx [x0, .d tokD, .d (.int P), .d (.int Q), x4, x5, x6, x7, x8, x9, x10, x11, x12, x13, x14, x15, x16, x17, x18, x19, x20, x21, x22, x23, x24, x25, x26, x27] g' := by
  obtain ⟨P, g1, hp, e1⟩ := m_pick_eq (row := [3, 5, 7, 11, 13, 17, 19]) (g := g) (by decide) (by decide)
  obtain ⟨Q, g2, hq, e2⟩ := m_pick_eq (row := [3, 5, 7, 11, 13, 17, 19, 23, 29, 31, 37]) (g := g1) (by decide) (by decide)
  have e1 : m__law_pick [tokD, .list [.int 3, .int 5, .int 7, .int 11, .int 13, .int 17, .int 19]] g = .ok (.int P) g1 := e1
  have e2 : m__law_pick [tokD, .list [.int 3, .int 5, .int 7, .int 11, .int 13, .int 17, .int 19, .int 23, .int 29, .int 31, .int 37]] g1 = .ok (.int Q) g2 := e2
  refine ⟨P.toNat, Q.toNat, P, Q, g2, ?_, ?_, ?_, ?_, by simp (disch := omega) only [S_law_1, e1, e2, eV_ap, eC_ap, eBin_ap, eNeg_ap, tVal_ap, eIsN_ap, eNotN_ap, eChain_ap, tAndF_ap, tOrF_ap, tNotF_ap, tTru_ap, eAnd_ap, eOr_ap, eNot_ap, eIf_ap, aNil_ap, aCons_ap, eTup_ap, eLst_ap, oNone_ap, oSome_ap, eSl_ap, eCall_ap, iLst_ap, iTpl_ap, iRan2_apN, eOf_ap, oLst_ap, oCat_ap, oRep_ap, oSl_ap, oList_ap, oComp_ap, tYesF_ap, sNil_ap, sSeq_th, sBrk_ap, sCnt_ap, sExpr_ap, sRet_ap, sRetN_ap, sIf_ap, sSet_ap, sSetO_ap, sAsg_ap, sPar_ap, sPar3_ap, sAug_ap, sApp_ap, sExt_ap, sSetIx_ap, sFrz_ap, eIxO_ap, eLenO_ap, eIxA_ap, eLenA_ap, vOf_ap, vCons_ap, vOwn_ap, vOwn2_ap, sTup_ap, iSeq_ap, sRaise_ap, sTry_ap, eExF_ap, tIfF_ap, eRev_ap, eRevA_ap, eRevF_ap, th_nx, th_rt, th_bk, th_ct, th_exc, bind_ok, bind_exc, go_ok, go_exc, opAdd_int, opSub_int, opMul_a, opMul_b, opDiv_pos, opDiv_wide, opMod_pos, opI_int, opEq_int, opNe_int, opEq_bool, opNe_bool, atI_0, atI_1, atI_2, atI_3, opIx_list, opIx_tuple, iRan1_ap, bLen_list, bLen_tuple, bInt_int, bAbs_int, bName, bNil, bCons, bTup, List.getElem?_cons_zero, List.getElem?_cons_succ, List.set_cons_zero, List.set_cons_succ, List.length_cons, List.length_nil, noTok, if_true, if_false, decide_true, decide_false, Bool.not_true, Bool.not_false, setAll, List.map_cons, List.map_nil, truD, Bool.true_eq_false, Bool.false_eq_true, Option.bind_some, true_and, and_true, List.replicate, startR, List.cons_append, List.nil_append, Nat.sub_self, reduceIte, ↓reduceIte, isNon, LIM_eq, and_self, List.map_append, List.length_map, Int.toNat_natCast, Nat.zero_le, Nat.reduceLeDiff, Int.reduceNeg, Int.reduceLE, Int.reduceLT, Int.zero_add, ran1_int, ran2_int, noEx, eq_self, dI, dP, dPs]⟩
  · have : ∀ x ∈ [(3 : Int), 5, 7, 11, 13, 17, 19], x.toNat ∈ P7 := by decide
    exact this P hp
  · have : ∀ x ∈ [(3 : Int), 5, 7, 11, 13, 17, 19, 23, 29, 31, 37], x.toNat ∈ Q11 := by decide
    exact this Q hq
  · have : ∀ x ∈ [(3 : Int), 5, 7, 11, 13, 17, 19], x = (x.toNat : Int) := by decide
    exact this P hp
  · have : ∀ x ∈ [(3 : Int), 5, 7, 11, 13, 17, 19, 23, 29, 31, 37], x = (x.toNat : Int) := by decide
    exact this Q hq
theorem t35 (hp : p ∈ P7) (hP : P = (p : Int)) : S_law_35 [x0, .d tokD, .d (.int P), .d (.int Q), x4, x5, x6, x7, x8, x9, x10, x11, x12, x13, x14, x15, x16, x17, x18, x19, x20, x21, x22, x23, x24, x25, x26, x27] g = .nx [x0, .d tokD, .d (.int P), .d (.int Q), x4, x5, x6, x7, x8, x9, x10, x11, x12, x13, x14, x15, x16, .d (rowD p (gs p 1)), x18, x19, x20, x21, x22, x23, x24, x25, x26, x27] g := by
  obtain ⟨hp3, hp19⟩ := p7_b p hp
  have h1 := m_sum_of_signs_eq (g := g) (a := 1) (A := 1) hp hP (by rw [Int.emod_eq_of_lt (by omega) (by omega)]; rfl)
  generalize rowD p (gs p 1) = R at *
  simp (disch := omega) only [S_law_35, h1, eV_ap, eC_ap, eBin_ap, eNeg_ap, tVal_ap, eIsN_ap, eNotN_ap, eChain_ap, tAndF_ap, tOrF_ap, tNotF_ap, tTru_ap, eAnd_ap, eOr_ap, eNot_ap, eIf_ap, aNil_ap, aCons_ap, eTup_ap, eLst_ap, oNone_ap, oSome_ap, eSl_ap, eCall_ap, iLst_ap, iTpl_ap, iRan2_apN, eOf_ap, oLst_ap, oCat_ap, oRep_ap, oSl_ap, oList_ap, oComp_ap, tYesF_ap, sNil_ap, sSeq_th, sBrk_ap, sCnt_ap, sExpr_ap, sRet_ap, sRetN_ap, sIf_ap, sSet_ap, sSetO_ap, sAsg_ap, sPar_ap, sPar3_ap, sAug_ap, sApp_ap, sExt_ap, sSetIx_ap, sFrz_ap, eIxO_ap, eLenO_ap, eIxA_ap, eLenA_ap, vOf_ap, vCons_ap, vOwn_ap, vOwn2_ap, sTup_ap, iSeq_ap, sRaise_ap, sTry_ap, eExF_ap, tIfF_ap, eRev_ap, eRevA_ap, eRevF_ap, th_nx, th_rt, th_bk, th_ct, th_exc, bind_ok, bind_exc, go_ok, go_exc, opAdd_int, opSub_int, opMul_a, opMul_b, opDiv_pos, opDiv_wide, opMod_pos, opI_int, opEq_int, opNe_int, opEq_bool, opNe_bool, atI_0, atI_1, atI_2, atI_3, opIx_list, opIx_tuple, iRan1_ap, bLen_list, bLen_tuple, bInt_int, bAbs_int, bName, bNil, bCons, bTup, List.getElem?_cons_zero, List.getElem?_cons_succ, List.set_cons_zero, List.set_cons_succ, List.length_cons, List.length_nil, noTok, if_true, if_false, decide_true, decide_false, Bool.not_true, Bool.not_false, setAll, List.map_cons, List.map_nil, truD, Bool.true_eq_false, Bool.false_eq_true, Option.bind_some, true_and, and_true, List.replicate, startR, List.cons_append, List.nil_append, Nat.sub_self, reduceIte, ↓reduceIte, isNon, LIM_eq, and_self, List.map_append, List.length_map, Int.toNat_natCast, Nat.zero_le, Nat.reduceLeDiff, Int.reduceNeg, Int.reduceLE, Int.reduceLT, Int.zero_add, ran1_int, ran2_int, noEx, eq_self, dI, dP, dPs]
theorem t36 (hP : P = (p : Int)) : S_law_36 [x0, .d tokD, .d (.int P), .d (.int Q), x4, x5, x6, x7, x8, x9, x10, x11, x12, x13, x14, x15, x16, x17, x18, x19, x20, x21, x22, x23, x24, x25, x26, x27] g = .nx [x0, .d tokD, .d (.int P), .d (.int Q), x4, x5, x6, x7, x8, x9, x10, x11, x12, x13, x14, x15, x16, x17, .d (.int (star p)), x19, x20, x21, x22, x23, x24, x25, x26, x27] g := by
  rw [← star_eq hP]
  by_cases h : P % 4 = 1
  · rw [if_pos h]
    simp (disch := omega) only [S_law_36, h, eV_ap, eC_ap, eBin_ap, eNeg_ap, tVal_ap, eIsN_ap, eNotN_ap, eChain_ap, tAndF_ap, tOrF_ap, tNotF_ap, tTru_ap, eAnd_ap, eOr_ap, eNot_ap, eIf_ap, aNil_ap, aCons_ap, eTup_ap, eLst_ap, oNone_ap, oSome_ap, eSl_ap, eCall_ap, iLst_ap, iTpl_ap, iRan2_apN, eOf_ap, oLst_ap, oCat_ap, oRep_ap, oSl_ap, oList_ap, oComp_ap, tYesF_ap, sNil_ap, sSeq_th, sBrk_ap, sCnt_ap, sExpr_ap, sRet_ap, sRetN_ap, sIf_ap, sSet_ap, sSetO_ap, sAsg_ap, sPar_ap, sPar3_ap, sAug_ap, sApp_ap, sExt_ap, sSetIx_ap, sFrz_ap, eIxO_ap, eLenO_ap, eIxA_ap, eLenA_ap, vOf_ap, vCons_ap, vOwn_ap, vOwn2_ap, sTup_ap, iSeq_ap, sRaise_ap, sTry_ap, eExF_ap, tIfF_ap, eRev_ap, eRevA_ap, eRevF_ap, th_nx, th_rt, th_bk, th_ct, th_exc, bind_ok, bind_exc, go_ok, go_exc, opAdd_int, opSub_int, opMul_a, opMul_b, opDiv_pos, opDiv_wide, opMod_pos, opI_int, opEq_int, opNe_int, opEq_bool, opNe_bool, atI_0, atI_1, atI_2, atI_3, opIx_list, opIx_tuple, iRan1_ap, bLen_list, bLen_tuple, bInt_int, bAbs_int, bName, bNil, bCons, bTup, List.getElem?_cons_zero, List.getElem?_cons_succ, List.set_cons_zero, List.set_cons_succ, List.length_cons, List.length_nil, noTok, if_true, if_false, decide_true, decide_false, Bool.not_true, Bool.not_false, setAll, List.map_cons, List.map_nil, truD, Bool.true_eq_false, Bool.false_eq_true, Option.bind_some, true_and, and_true, List.replicate, startR, List.cons_append, List.nil_append, Nat.sub_self, reduceIte, ↓reduceIte, isNon, LIM_eq, and_self, List.map_append, List.length_map, Int.toNat_natCast, Nat.zero_le, Nat.reduceLeDiff, Int.reduceNeg, Int.reduceLE, Int.reduceLT, Int.zero_add, ran1_int, ran2_int, noEx, eq_self, dI, dP, dPs]
  · rw [if_neg h]
    simp (disch := omega) only [S_law_36, h, eV_ap, eC_ap, eBin_ap, eNeg_ap, tVal_ap, eIsN_ap, eNotN_ap, eChain_ap, tAndF_ap, tOrF_ap, tNotF_ap, tTru_ap, eAnd_ap, eOr_ap, eNot_ap, eIf_ap, aNil_ap, aCons_ap, eTup_ap, eLst_ap, oNone_ap, oSome_ap, eSl_ap, eCall_ap, iLst_ap, iTpl_ap, iRan2_apN, eOf_ap, oLst_ap, oCat_ap, oRep_ap, oSl_ap, oList_ap, oComp_ap, tYesF_ap, sNil_ap, sSeq_th, sBrk_ap, sCnt_ap, sExpr_ap, sRet_ap, sRetN_ap, sIf_ap, sSet_ap, sSetO_ap, sAsg_ap, sPar_ap, sPar3_ap, sAug_ap, sApp_ap, sExt_ap, sSetIx_ap, sFrz_ap, eIxO_ap, eLenO_ap, eIxA_ap, eLenA_ap, vOf_ap, vCons_ap, vOwn_ap, vOwn2_ap, sTup_ap, iSeq_ap, sRaise_ap, sTry_ap, eExF_ap, tIfF_ap, eRev_ap, eRevA_ap, eRevF_ap, th_nx, th_rt, th_bk, th_ct, th_exc, bind_ok, bind_exc, go_ok, go_exc, opAdd_int, opSub_int, opMul_a, opMul_b, opDiv_pos, opDiv_wide, opMod_pos, opI_int, opEq_int, opNe_int, opEq_bool, opNe_bool, atI_0, atI_1, atI_2, atI_3, opIx_list, opIx_tuple, iRan1_ap, bLen_list, bLen_tuple, bInt_int, bAbs_int, bName, bNil, bCons, bTup, List.getElem?_cons_zero, List.getElem?_cons_succ, List.set_cons_zero, List.set_cons_succ, List.length_cons, List.length_nil, noTok, if_true, if_false, decide_true, decide_false, Bool.not_true, Bool.not_false, setAll, List.map_cons, List.map_nil, truD, Bool.true_eq_false, Bool.false_eq_true, Option.bind_some, true_and, and_true, List.replicate, startR, List.cons_append, List.nil_append, Nat.sub_self, reduceIte, ↓reduceIte, isNon, LIM_eq, and_self, List.map_append, List.length_map, Int.toNat_natCast, Nat.zero_le, Nat.reduceLeDiff, Int.reduceNeg, Int.reduceLE, Int.reduceLT, Int.zero_add, ran1_int, ran2_int, noEx, eq_self, dI, dP, dPs]
theorem t37 (hp : p ∈ P7) (hP : P = (p : Int)) : S_law_37 [x0, .d tokD, .d (.int P), .d (.int Q), x4, x5, x6, x7, x8, x9, x10, x11, x12, x13, x14, x15, x16, .d (rowD p (gs p 1)), .d (.int (star p)), x19, x20, x21, x22, x23, x24, x25, x26, x27] g = .nx [x0, .d tokD, .d (.int P), .d (.int Q), x4, x5, x6, x7, x8, x9, x10, x11, x12, x13, x14, x15, x16, .d (rowD p (gs p 1)), .d (.int (star p)), x19, x20, x21, x22, x23, x24, x25, x26, x27] g := by
  obtain ⟨hp3, hp19⟩ := p7_b p hp
  have h1 := m_starred_eq (g := g) hP
  have h2 := m__law_times_eq (g := g) (p := p) (by omega) (by omega) (lit_abs hp) (lit_abs hp) (by omega)
  obtain ⟨e1, e2⟩ := tail_row (g := g) (x := star p) hP hp3 (by omega)
  have n1 := ne_row (g := g) (gs_sq hp)
  have h3 := m_sum_of_squares_eq (g := g) (a := 1) (A := 1) hp hP (by rw [Int.emod_eq_of_lt (by omega) (by omega)]; rfl)
  have n2 := ne_row (g := g) (sq_gs hp)
  generalize rowD p (mulR p (gs p 1) (gs p 1)) = R1 at *
  generalize rowD p (whR (star p)) = R2 at *
  generalize rowD p (gs p 1) = R3 at *
  generalize rowD p (Sq p 1) = R4 at *
  generalize star p = S at *
  generalize wid (p - 2) (fun _ => 0) = L at *
  simp (disch := omega) only [S_law_37, h1, h2, e1, e2, n1, h3, n2, eV_ap, eC_ap, eBin_ap, eNeg_ap, tVal_ap, eIsN_ap, eNotN_ap, eChain_ap, tAndF_ap, tOrF_ap, tNotF_ap, tTru_ap, eAnd_ap, eOr_ap, eNot_ap, eIf_ap, aNil_ap, aCons_ap, eTup_ap, eLst_ap, oNone_ap, oSome_ap, eSl_ap, eCall_ap, iLst_ap, iTpl_ap, iRan2_apN, eOf_ap, oLst_ap, oCat_ap, oRep_ap, oSl_ap, oList_ap, oComp_ap, tYesF_ap, sNil_ap, sSeq_th, sBrk_ap, sCnt_ap, sExpr_ap, sRet_ap, sRetN_ap, sIf_ap, sSet_ap, sSetO_ap, sAsg_ap, sPar_ap, sPar3_ap, sAug_ap, sApp_ap, sExt_ap, sSetIx_ap, sFrz_ap, eIxO_ap, eLenO_ap, eIxA_ap, eLenA_ap, vOf_ap, vCons_ap, vOwn_ap, vOwn2_ap, sTup_ap, iSeq_ap, sRaise_ap, sTry_ap, eExF_ap, tIfF_ap, eRev_ap, eRevA_ap, eRevF_ap, th_nx, th_rt, th_bk, th_ct, th_exc, bind_ok, bind_exc, go_ok, go_exc, opAdd_int, opSub_int, opMul_a, opMul_b, opDiv_pos, opDiv_wide, opMod_pos, opI_int, opEq_int, opNe_int, opEq_bool, opNe_bool, atI_0, atI_1, atI_2, atI_3, opIx_list, opIx_tuple, iRan1_ap, bLen_list, bLen_tuple, bInt_int, bAbs_int, bName, bNil, bCons, bTup, List.getElem?_cons_zero, List.getElem?_cons_succ, List.set_cons_zero, List.set_cons_succ, List.length_cons, List.length_nil, noTok, if_true, if_false, decide_true, decide_false, Bool.not_true, Bool.not_false, setAll, List.map_cons, List.map_nil, truD, Bool.true_eq_false, Bool.false_eq_true, Option.bind_some, true_and, and_true, List.replicate, startR, List.cons_append, List.nil_append, Nat.sub_self, reduceIte, ↓reduceIte, isNon, LIM_eq, and_self, List.map_append, List.length_map, Int.toNat_natCast, Nat.zero_le, Nat.reduceLeDiff, Int.reduceNeg, Int.reduceLE, Int.reduceLT, Int.zero_add, ran1_int, ran2_int, noEx, eq_self, dI, dP, dPs]
theorem t39 {b : Nat} {B : Int} {r : Nat → Int} (hp : p ∈ P7) (hq : q ∈ Q11) (hP : P = (p : Int)) (hQ : Q = (q : Int)) (hB : B = (b : Int)) (hb1 : 1 ≤ b) (hb : b < p) : S_law_39 [x0, .d tokD, .d (.int P), .d (.int Q), x4, x5, .d (rowD p r), x7, x8, x9, x10, x11, x12, .d (.int B), x14, x15, x16, .d (rowD p (gs p 1)), x18, x19, x20, x21, x22, x23, x24, x25, x26, x27] g = .nx [x0, .d tokD, .d (.int P), .d (.int Q), x4, x5, .d (rowD p r), x7, x8, x9, x10, x11, x12, .d (.int B), x14, x15, x16, .d (rowD p (gs p 1)), x18, x19, x20, x21, x22, x23, x24, x25, x26, x27] g := by
  obtain ⟨hp3, hp19⟩ := p7_b p hp
  obtain ⟨hq3, hq37, hq2⟩ := q11_b q hq
  have h1 := m_sum_of_signs_eq (g := g) (a := B) (A := b) hp hP (by rw [Int.emod_eq_of_lt (by omega) (by omega)]; exact hB)
  have hj := m_ljacobi_p (g := g) (j := b) hp hb1 hb hP hB
  have h2 := m_rest_by_eq (g := g) (p := p) (r := r) (q := Q) (by omega) (by omega)
  have hJ : -18446744073709551616 < J p b ∧ J p b < 18446744073709551616 := by
    unfold J
    split
    · omega
    · split <;> omega
  have hC8 : eOf C_law_8 [x0, .d tokD, .d (.int P), .d (.int Q), x4, x5, .d (rowD p r), x7, x8, x9, x10, x11, x12, .d (.int B), x14, x15, x16, .d (rowD p (gs p 1)), x18, x19, x20, x21, x22, x23, x24, x25, x26, x27] g = .ok (.list (wid (p - 1) fun k => J p b * gs p 1 k)) g := by
    have := comp_mapA PyData.int (vs := [27]) (fi := iSeq (eV 17)) (b := bName 27) (fe := eBin opMul (eCall m__law_jacobi (aCons (eV 13) (aCons (eV 2) aNil))) (eV 27)) (ρ := [x0, .d tokD, .d (.int P), .d (.int Q), x4, x5, .d (rowD p r), x7, x8, x9, x10, x11, x12, .d (.int B), x14, x15, x16, .d (rowD p (gs p 1)), x18, x19, x20, x21, x22, x23, x24, x25, x26, x27]) (g := g) (xs := (List.range (p - 1)).map (gs p 1)) (fun x => .int (J p b * x)) (by
      rw [← wid_ints]
      rfl) (by rw [List.length_map, List.length_range]; omega) (fun x hx => by
      refine ⟨[x0, .d tokD, .d (.int P), .d (.int Q), x4, x5, .d (rowD p r), x7, x8, x9, x10, x11, x12, .d (.int B), x14, x15, x16, .d (rowD p (gs p 1)), x18, x19, x20, x21, x22, x23, x24, x25, x26, .d (.int x)], rfl, ?_, rfl⟩
      have hmul : opMul (.int (J p b)) (.int x) g = .ok (.int (J p b * x)) g := opMul_a hJ.1 hJ.2
      generalize rowD p r = R1 at *
      generalize rowD p (gs p 1) = R2 at *
      simp (disch := omega) only [hj, hmul, eV_ap, eC_ap, eBin_ap, eNeg_ap, tVal_ap, eIsN_ap, eNotN_ap, eChain_ap, tAndF_ap, tOrF_ap, tNotF_ap, tTru_ap, eAnd_ap, eOr_ap, eNot_ap, eIf_ap, aNil_ap, aCons_ap, eTup_ap, eLst_ap, oNone_ap, oSome_ap, eSl_ap, eCall_ap, iLst_ap, iTpl_ap, iRan2_apN, eOf_ap, oLst_ap, oCat_ap, oRep_ap, oSl_ap, oList_ap, oComp_ap, tYesF_ap, sNil_ap, sSeq_th, sBrk_ap, sCnt_ap, sExpr_ap, sRet_ap, sRetN_ap, sIf_ap, sSet_ap, sSetO_ap, sAsg_ap, sPar_ap, sPar3_ap, sAug_ap, sApp_ap, sExt_ap, sSetIx_ap, sFrz_ap, eIxO_ap, eLenO_ap, eIxA_ap, eLenA_ap, vOf_ap, vCons_ap, vOwn_ap, vOwn2_ap, sTup_ap, iSeq_ap, sRaise_ap, sTry_ap, eExF_ap, tIfF_ap, eRev_ap, eRevA_ap, eRevF_ap, th_nx, th_rt, th_bk, th_ct, th_exc, bind_ok, bind_exc, go_ok, go_exc, opAdd_int, opSub_int, opDiv_pos, opDiv_wide, opMod_pos, opI_int, opEq_int, opNe_int, opEq_bool, opNe_bool, atI_0, atI_1, atI_2, atI_3, opIx_list, opIx_tuple, iRan1_ap, bLen_list, bLen_tuple, bInt_int, bAbs_int, bName, bNil, bCons, bTup, List.getElem?_cons_zero, List.getElem?_cons_succ, List.set_cons_zero, List.set_cons_succ, List.length_cons, List.length_nil, noTok, if_true, if_false, decide_true, decide_false, Bool.not_true, Bool.not_false, setAll, List.map_cons, List.map_nil, truD, Bool.true_eq_false, Bool.false_eq_true, Option.bind_some, true_and, and_true, List.replicate, startR, List.cons_append, List.nil_append, Nat.sub_self, reduceIte, ↓reduceIte, isNon, LIM_eq, and_self, List.map_append, List.length_map, Int.toNat_natCast, Nat.zero_le, Nat.reduceLeDiff, Int.reduceNeg, Int.reduceLE, Int.reduceLT, Int.zero_add, ran1_int, ran2_int, noEx, eq_self, dI, dP, dPs])
    show (C_law_8 _ g).bind _ = _
    rw [show C_law_8 = oComp [27] (iSeq (eV 17)) (bName 27) tYesF (eBin opMul (eCall m__law_jacobi (aCons (eV 13) (aCons (eV 2) aNil))) (eV 27)) from rfl, this, bind_ok, wid_list (F := fun x => J p b * x)]
  have hC7 : eOf C_law_7 [x0, .d tokD, .d (.int P), .d (.int Q), x4, x5, .d (rowD p r), x7, x8, x9, x10, x11, x12, .d (.int B), x14, x15, x16, .d (rowD p (gs p 1)), x18, x19, x20, x21, x22, x23, x24, x25, x26, x27] g = .ok (.list (wid (p - 1) fun k => r k % Q)) g := by
    have := comp_mapA PyData.int (vs := [27]) (fi := iSeq (eV 6)) (b := bName 27) (fe := eBin opMod (eCall bInt (aCons (eV 27) aNil)) (eV 3)) (ρ := [x0, .d tokD, .d (.int P), .d (.int Q), x4, x5, .d (rowD p r), x7, x8, x9, x10, x11, x12, .d (.int B), x14, x15, x16, .d (rowD p (gs p 1)), x18, x19, x20, x21, x22, x23, x24, x25, x26, x27]) (g := g) (xs := (List.range (p - 1)).map r) (fun x => .int (x % Q)) (by
      rw [← wid_ints]
      rfl) (by rw [List.length_map, List.length_range]; omega) (fun x hx => by
      refine ⟨[x0, .d tokD, .d (.int P), .d (.int Q), x4, x5, .d (rowD p r), x7, x8, x9, x10, x11, x12, .d (.int B), x14, x15, x16, .d (rowD p (gs p 1)), x18, x19, x20, x21, x22, x23, x24, x25, x26, .d (.int x)], rfl, ?_, rfl⟩
      have hmod : opMod (.int x) (.int Q) g = .ok (.int (x % Q)) g := opMod_pos (by omega)
      generalize rowD p r = R1 at *
      generalize rowD p (gs p 1) = R2 at *
      simp (disch := omega) only [hmod, eV_ap, eC_ap, eBin_ap, eNeg_ap, tVal_ap, eIsN_ap, eNotN_ap, eChain_ap, tAndF_ap, tOrF_ap, tNotF_ap, tTru_ap, eAnd_ap, eOr_ap, eNot_ap, eIf_ap, aNil_ap, aCons_ap, eTup_ap, eLst_ap, oNone_ap, oSome_ap, eSl_ap, eCall_ap, iLst_ap, iTpl_ap, iRan2_apN, eOf_ap, oLst_ap, oCat_ap, oRep_ap, oSl_ap, oList_ap, oComp_ap, tYesF_ap, sNil_ap, sSeq_th, sBrk_ap, sCnt_ap, sExpr_ap, sRet_ap, sRetN_ap, sIf_ap, sSet_ap, sSetO_ap, sAsg_ap, sPar_ap, sPar3_ap, sAug_ap, sApp_ap, sExt_ap, sSetIx_ap, sFrz_ap, eIxO_ap, eLenO_ap, eIxA_ap, eLenA_ap, vOf_ap, vCons_ap, vOwn_ap, vOwn2_ap, sTup_ap, iSeq_ap, sRaise_ap, sTry_ap, eExF_ap, tIfF_ap, eRev_ap, eRevA_ap, eRevF_ap, th_nx, th_rt, th_bk, th_ct, th_exc, bind_ok, bind_exc, go_ok, go_exc, opAdd_int, opSub_int, opMul_a, opMul_b, opDiv_pos, opDiv_wide, opI_int, opEq_int, opNe_int, opEq_bool, opNe_bool, atI_0, atI_1, atI_2, atI_3, opIx_list, opIx_tuple, iRan1_ap, bLen_list, bLen_tuple, bInt_int, bAbs_int, bName, bNil, bCons, bTup, List.getElem?_cons_zero, List.getElem?_cons_succ, List.set_cons_zero, List.set_cons_succ, List.length_cons, List.length_nil, noTok, if_true, if_false, decide_true, decide_false, Bool.not_true, Bool.not_false, setAll, List.map_cons, List.map_nil, truD, Bool.true_eq_false, Bool.false_eq_true, Option.bind_some, true_and, and_true, List.replicate, startR, List.cons_append, List.nil_append, Nat.sub_self, reduceIte, ↓reduceIte, isNon, LIM_eq, and_self, List.map_append, List.length_map, Int.toNat_natCast, Nat.zero_le, Nat.reduceLeDiff, Int.reduceNeg, Int.reduceLE, Int.reduceLT, Int.zero_add, ran1_int, ran2_int, noEx, eq_self, dI, dP, dPs])
    show (C_law_7 _ g).bind _ = _
    rw [show C_law_7 = oComp [27] (iSeq (eV 6)) (bName 27) tYesF (eBin opMod (eCall bInt (aCons (eV 27) aNil)) (eV 3)) from rfl, this, bind_ok, wid_list (F := fun x => x % Q)]
  have f7 : bTuple [.list (wid (p - 1) fun k => r k % Q)] g = .ok (rowD p fun k => r k % Q) g := rfl
  have f8 : bTuple [.list (wid (p - 1) fun k => J p b * gs p 1 k)] g = .ok (rowD p fun k => J p b * gs p 1 k) g := rfl
  have n1 := ne_row (g := g) (gs_b hp hb1 hb)
  have n2 := ne_row (g := g) (p := p) (r := fun k => r k % Q) (s := fun k => r k % Q) fun _ _ => rfl
  generalize (wid (p - 1) fun k => r k % Q) = L7 at *
  generalize (wid (p - 1) fun k => J p b * gs p 1 k) = L8 at *
  generalize (rowD p fun k => r k % Q) = R7 at *
  generalize (rowD p fun k => J p b * gs p 1 k) = R8 at *
  generalize rowD p (gs p b) = R9 at *
  generalize rowD p r = R1 at *
  generalize rowD p (gs p 1) = R2 at *
  simp (disch := omega) only [S_law_39, h1, hC7, hC8, f7, f8, n1, h2, n2, eV_ap, eC_ap, eBin_ap, eNeg_ap, tVal_ap, eIsN_ap, eNotN_ap, eChain_ap, tAndF_ap, tOrF_ap, tNotF_ap, tTru_ap, eAnd_ap, eOr_ap, eNot_ap, eIf_ap, aNil_ap, aCons_ap, eTup_ap, eLst_ap, oNone_ap, oSome_ap, eSl_ap, eCall_ap, iLst_ap, iTpl_ap, iRan2_apN, oLst_ap, oCat_ap, oRep_ap, oSl_ap, oList_ap, oComp_ap, tYesF_ap, sNil_ap, sSeq_th, sBrk_ap, sCnt_ap, sExpr_ap, sRet_ap, sRetN_ap, sIf_ap, sSet_ap, sSetO_ap, sAsg_ap, sPar_ap, sPar3_ap, sAug_ap, sApp_ap, sExt_ap, sSetIx_ap, sFrz_ap, eIxO_ap, eLenO_ap, eIxA_ap, eLenA_ap, vOf_ap, vCons_ap, vOwn_ap, vOwn2_ap, sTup_ap, iSeq_ap, sRaise_ap, sTry_ap, eExF_ap, tIfF_ap, eRev_ap, eRevA_ap, eRevF_ap, th_nx, th_rt, th_bk, th_ct, th_exc, bind_ok, bind_exc, go_ok, go_exc, opAdd_int, opSub_int, opMul_a, opMul_b, opDiv_pos, opDiv_wide, opMod_pos, opI_int, opEq_int, opNe_int, opEq_bool, opNe_bool, atI_0, atI_1, atI_2, atI_3, opIx_list, opIx_tuple, iRan1_ap, bLen_list, bLen_tuple, bInt_int, bAbs_int, bName, bNil, bCons, bTup, List.getElem?_cons_zero, List.getElem?_cons_succ, List.set_cons_zero, List.set_cons_succ, List.length_cons, List.length_nil, noTok, if_true, if_false, decide_true, decide_false, Bool.not_true, Bool.not_false, setAll, List.map_cons, List.map_nil, truD, Bool.true_eq_false, Bool.false_eq_true, Option.bind_some, true_and, and_true, List.replicate, startR, List.cons_append, List.nil_append, Nat.sub_self, reduceIte, ↓reduceIte, isNon, LIM_eq, and_self, List.map_append, List.length_map, Int.toNat_natCast, Nat.zero_le, Nat.reduceLeDiff, Int.reduceNeg, Int.reduceLE, Int.reduceLT, Int.zero_add, ran1_int, ran2_int, noEx, eq_self, dI, dP, dPs]
theorem t41 (hp : p ∈ P7) (hq : q ∈ Q11) (hP : P = (p : Int)) (hQ : Q = (q : Int)) : ∃ y : SV, S_law_41 [x0, .d tokD, .d (.int P), .d (.int Q), x4, x5, x6, x7, x8, x9, x10, x11, x12, x13, x14, x15, x16, x17, .d (.int (star p)), x19, x20, x21, x22, x23, x24, x25, x26, x27] g = .nx [x0, .d tokD, .d (.int P), .d (.int Q), x4, x5, x6, x7, x8, x9, x10, x11, x12, x13, x14, x15, x16, x17, .d (.int (star p)), y, x20, x21, x22, x23, x24, x25, x26, x27] g := by
  by_cases h : p = q
  · refine ⟨x19, ?_⟩
    have e : P = Q := by omega
    simp (disch := omega) only [S_law_41, e, eV_ap, eC_ap, eBin_ap, eNeg_ap, tVal_ap, eIsN_ap, eNotN_ap, eChain_ap, tAndF_ap, tOrF_ap, tNotF_ap, tTru_ap, eAnd_ap, eOr_ap, eNot_ap, eIf_ap, aNil_ap, aCons_ap, eTup_ap, eLst_ap, oNone_ap, oSome_ap, eSl_ap, eCall_ap, iLst_ap, iTpl_ap, iRan2_apN, eOf_ap, oLst_ap, oCat_ap, oRep_ap, oSl_ap, oList_ap, oComp_ap, tYesF_ap, sNil_ap, sSeq_th, sBrk_ap, sCnt_ap, sExpr_ap, sRet_ap, sRetN_ap, sIf_ap, sSet_ap, sSetO_ap, sAsg_ap, sPar_ap, sPar3_ap, sAug_ap, sApp_ap, sExt_ap, sSetIx_ap, sFrz_ap, eIxO_ap, eLenO_ap, eIxA_ap, eLenA_ap, vOf_ap, vCons_ap, vOwn_ap, vOwn2_ap, sTup_ap, iSeq_ap, sRaise_ap, sTry_ap, eExF_ap, tIfF_ap, eRev_ap, eRevA_ap, eRevF_ap, th_nx, th_rt, th_bk, th_ct, th_exc, bind_ok, bind_exc, go_ok, go_exc, opAdd_int, opSub_int, opMul_a, opMul_b, opDiv_pos, opDiv_wide, opMod_pos, opI_int, opEq_int, opNe_int, opEq_bool, opNe_bool, atI_0, atI_1, atI_2, atI_3, opIx_list, opIx_tuple, iRan1_ap, bLen_list, bLen_tuple, bInt_int, bAbs_int, bName, bNil, bCons, bTup, List.getElem?_cons_zero, List.getElem?_cons_succ, List.set_cons_zero, List.set_cons_succ, List.length_cons, List.length_nil, noTok, if_true, if_false, decide_true, decide_false, Bool.not_true, Bool.not_false, setAll, List.map_cons, List.map_nil, truD, Bool.true_eq_false, Bool.false_eq_true, Option.bind_some, true_and, and_true, List.replicate, startR, List.cons_append, List.nil_append, Nat.sub_self, reduceIte, ↓reduceIte, isNon, LIM_eq, and_self, List.map_append, List.length_map, Int.toNat_natCast, Nat.zero_le, Nat.reduceLeDiff, Int.reduceNeg, Int.reduceLE, Int.reduceLT, Int.zero_add, ran1_int, ran2_int, noEx, eq_self, dI, dP, dPs]
  · refine ⟨.d (.int (J p q)), ?_⟩
    have e : ¬ P = Q := by omega
    have h1 := m_turned_sign_eq (g := g) hp hq h hP hQ
    obtain ⟨h2, h3⟩ := m_ljacobi_q (g := g) hp hq h hP hQ rfl
    generalize star p = S at *
    generalize J p q = W at *
    simp (disch := omega) only [S_law_41, S_law_42, S_law_43, e, h1, h2, h3, eV_ap, eC_ap, eBin_ap, eNeg_ap, tVal_ap, eIsN_ap, eNotN_ap, eChain_ap, tAndF_ap, tOrF_ap, tNotF_ap, tTru_ap, eAnd_ap, eOr_ap, eNot_ap, eIf_ap, aNil_ap, aCons_ap, eTup_ap, eLst_ap, oNone_ap, oSome_ap, eSl_ap, eCall_ap, iLst_ap, iTpl_ap, iRan2_apN, eOf_ap, oLst_ap, oCat_ap, oRep_ap, oSl_ap, oList_ap, oComp_ap, tYesF_ap, sNil_ap, sSeq_th, sBrk_ap, sCnt_ap, sExpr_ap, sRet_ap, sRetN_ap, sIf_ap, sSet_ap, sSetO_ap, sAsg_ap, sPar_ap, sPar3_ap, sAug_ap, sApp_ap, sExt_ap, sSetIx_ap, sFrz_ap, eIxO_ap, eLenO_ap, eIxA_ap, eLenA_ap, vOf_ap, vCons_ap, vOwn_ap, vOwn2_ap, sTup_ap, iSeq_ap, sRaise_ap, sTry_ap, eExF_ap, tIfF_ap, eRev_ap, eRevA_ap, eRevF_ap, th_nx, th_rt, th_bk, th_ct, th_exc, bind_ok, bind_exc, go_ok, go_exc, opAdd_int, opSub_int, opMul_a, opMul_b, opDiv_pos, opDiv_wide, opMod_pos, opI_int, opEq_int, opNe_int, opEq_bool, opNe_bool, atI_0, atI_1, atI_2, atI_3, opIx_list, opIx_tuple, iRan1_ap, bLen_list, bLen_tuple, bInt_int, bAbs_int, bName, bNil, bCons, bTup, List.getElem?_cons_zero, List.getElem?_cons_succ, List.set_cons_zero, List.set_cons_succ, List.length_cons, List.length_nil, noTok, if_true, if_false, decide_true, decide_false, Bool.not_true, Bool.not_false, setAll, List.map_cons, List.map_nil, truD, Bool.true_eq_false, Bool.false_eq_true, Option.bind_some, true_and, and_true, List.replicate, startR, List.cons_append, List.nil_append, Nat.sub_self, reduceIte, ↓reduceIte, isNon, LIM_eq, and_self, List.map_append, List.length_map, Int.toNat_natCast, Nat.zero_le, Nat.reduceLeDiff, Int.reduceNeg, Int.reduceLE, Int.reduceLT, Int.zero_add, ran1_int, ran2_int, noEx, eq_self, dI, dP, dPs]
theorem t45 : ∃ (t v : Nat) (T V : Int) (g' : G), 1 ≤ t ∧ t ≤ 3 ∧ v ≤ 39 ∧ T = (t : Int) ∧ V = (v : Int) ∧ S_law_45 [x0, .d tokD, .d (.int P), .d (.int Q), x4, x5, x6, x7, x8, x9, x10, x11, x12, x13, x14, x15, x16, x17, x18, x19, x20, x21, x22, x23, x24, x25, x26, x27] g = .nx [x0, .d tokD, .d (.int P), .d (.int Q), x4, x5, x6, x7, x8, x9, x10, x11, x12, x13, x14, x15, x16, x17, x18, x19, .d (.int T), .d (.int V), x22, x23, x24, x25, x26, x27] g' := by
  obtain ⟨v, g1, e1, v0, v1⟩ := take_ok 3 g (by decide)
  obtain ⟨w, g2, e2, w0, w1⟩ := take_ok 40 g1 (by decide)
  exact ⟨v.toNat + 1, w.toNat, 1 + v, w, g2, by omega, by omega, by omega, by omega, by omega, by simp (disch := omega) only [S_law_45, e1, e2, eV_ap, eC_ap, eBin_ap, eNeg_ap, tVal_ap, eIsN_ap, eNotN_ap, eChain_ap, tAndF_ap, tOrF_ap, tNotF_ap, tTru_ap, eAnd_ap, eOr_ap, eNot_ap, eIf_ap, aNil_ap, aCons_ap, eTup_ap, eLst_ap, oNone_ap, oSome_ap, eSl_ap, eCall_ap, iLst_ap, iTpl_ap, iRan2_apN, eOf_ap, oLst_ap, oCat_ap, oRep_ap, oSl_ap, oList_ap, oComp_ap, tYesF_ap, sNil_ap, sSeq_th, sBrk_ap, sCnt_ap, sExpr_ap, sRet_ap, sRetN_ap, sIf_ap, sSet_ap, sSetO_ap, sAsg_ap, sPar_ap, sPar3_ap, sAug_ap, sApp_ap, sExt_ap, sSetIx_ap, sFrz_ap, eIxO_ap, eLenO_ap, eIxA_ap, eLenA_ap, vOf_ap, vCons_ap, vOwn_ap, vOwn2_ap, sTup_ap, iSeq_ap, sRaise_ap, sTry_ap, eExF_ap, tIfF_ap, eRev_ap, eRevA_ap, eRevF_ap, th_nx, th_rt, th_bk, th_ct, th_exc, bind_ok, bind_exc, go_ok, go_exc, opAdd_int, opSub_int, opMul_a, opMul_b, opDiv_pos, opDiv_wide, opMod_pos, opI_int, opEq_int, opNe_int, opEq_bool, opNe_bool, atI_0, atI_1, atI_2, atI_3, opIx_list, opIx_tuple, iRan1_ap, bLen_list, bLen_tuple, bInt_int, bAbs_int, bName, bNil, bCons, bTup, List.getElem?_cons_zero, List.getElem?_cons_succ, List.set_cons_zero, List.set_cons_succ, List.length_cons, List.length_nil, noTok, if_true, if_false, decide_true, decide_false, Bool.not_true, Bool.not_false, setAll, List.map_cons, List.map_nil, truD, Bool.true_eq_false, Bool.false_eq_true, Option.bind_some, true_and, and_true, List.replicate, startR, List.cons_append, List.nil_append, Nat.sub_self, reduceIte, ↓reduceIte, isNon, LIM_eq, and_self, List.map_append, List.length_map, Int.toNat_natCast, Nat.zero_le, Nat.reduceLeDiff, Int.reduceNeg, Int.reduceLE, Int.reduceLT, Int.zero_add, ran1_int, ran2_int, noEx, eq_self, dI, dP, dPs]⟩
theorem t47 (hp : p ∈ P7) (hP : P = (p : Int)) : S_law_47 [x0, .d tokD, .d (.int P), .d (.int Q), x4, x5, x6, x7, x8, x9, x10, x11, x12, x13, x14, x15, x16, x17, x18, x19, x20, x21, x22, x23, x24, x25, x26, x27] g = .nx [x0, .d tokD, .d (.int P), .d (.int Q), x4, x5, x6, x7, x8, x9, x10, x11, x12, x13, x14, x15, x16, x17, x18, x19, x20, x21, .d (.list (wid p (Nn p 0))), x23, x24, x25, x26, x27] g := by
  obtain ⟨hp3, hp19⟩ := p7_b p hp
  have h1 := mul_const (g := g) (p := p - 1) (P := P - 1) (c := 0) (by omega) (by omega)
  have h2 : opAdd (.list [.int 1]) (.list (wid (p - 1) fun _ => 0)) g = .ok (.list (wid p (Nn p 0))) g := by
    show (if [PyData.int 1].length + (wid (p - 1) fun _ => 0).length ≤ LIM then Out.ok (PyData.list ([.int 1] ++ wid (p - 1) fun _ => 0)) g else .bad) = _
    rw [if_pos (by rw [wid_len, LIM_eq]; show 1 + (p - 1) ≤ _; omega)]
    have : [PyData.int 1] ++ wid (p - 1) (fun _ => 0) = wid p (Nn p 0) := by
      refine wid_ext (by rw [List.length_append, wid_len]; show 1 + (p - 1) = _; omega) fun i hi => ?_
      cases i with
      | zero => rfl
      | succ i =>
        show (wid (p - 1) fun _ => 0)[i]? = _
        rw [wid_get (by omega)]
        rfl
    rw [this]
  generalize (wid (p - 1) fun _ => (0 : Int)) = L1 at *
  generalize wid p (Nn p 0) = L2 at *
  simp (disch := omega) only [S_law_47, h1, h2, eV_ap, eC_ap, eBin_ap, eNeg_ap, tVal_ap, eIsN_ap, eNotN_ap, eChain_ap, tAndF_ap, tOrF_ap, tNotF_ap, tTru_ap, eAnd_ap, eOr_ap, eNot_ap, eIf_ap, aNil_ap, aCons_ap, eTup_ap, eLst_ap, oNone_ap, oSome_ap, eSl_ap, eCall_ap, iLst_ap, iTpl_ap, iRan2_apN, eOf_ap, oLst_ap, oCat_ap, oRep_ap, oSl_ap, oList_ap, oComp_ap, tYesF_ap, sNil_ap, sSeq_th, sBrk_ap, sCnt_ap, sExpr_ap, sRet_ap, sRetN_ap, sIf_ap, sSet_ap, sSetO_ap, sAsg_ap, sPar_ap, sPar3_ap, sAug_ap, sApp_ap, sExt_ap, sSetIx_ap, sFrz_ap, eIxO_ap, eLenO_ap, eIxA_ap, eLenA_ap, vOf_ap, vCons_ap, vOwn_ap, vOwn2_ap, sTup_ap, iSeq_ap, sRaise_ap, sTry_ap, eExF_ap, tIfF_ap, eRev_ap, eRevA_ap, eRevF_ap, th_nx, th_rt, th_bk, th_ct, th_exc, bind_ok, bind_exc, go_ok, go_exc, opAdd_int, opSub_int, opDiv_pos, opDiv_wide, opMod_pos, opI_int, opEq_int, opNe_int, opEq_bool, opNe_bool, atI_0, atI_1, atI_2, atI_3, opIx_list, opIx_tuple, iRan1_ap, bLen_list, bLen_tuple, bInt_int, bAbs_int, bName, bNil, bCons, bTup, List.getElem?_cons_zero, List.getElem?_cons_succ, List.set_cons_zero, List.set_cons_succ, List.length_cons, List.length_nil, noTok, if_true, if_false, decide_true, decide_false, Bool.not_true, Bool.not_false, setAll, List.map_cons, List.map_nil, truD, Bool.true_eq_false, Bool.false_eq_true, Option.bind_some, true_and, and_true, List.replicate, startR, List.cons_append, List.nil_append, Nat.sub_self, reduceIte, ↓reduceIte, isNon, LIM_eq, and_self, List.map_append, List.length_map, Int.toNat_natCast, Nat.zero_le, Nat.reduceLeDiff, Int.reduceNeg, Int.reduceLE, Int.reduceLT, Int.zero_add, ran1_int, ran2_int, noEx, eq_self, dI, dP, dPs]
def aN (p : Nat) (N : Nat → Int) (i : Nat) : Nat → Int := fun w => sm i fun u => sm p fun x => N u * ind ((u + x * x) % p = w)
def aN2 (p : Nat) (N : Nat → Int) (i j : Nat) : Nat → Int := fun w => aN p N i w + sm j fun x => N i * ind ((i + x * x) % p = w)
theorem t51 {N : Nat → Int} {i : Nat} {I : Int} (hp : p ∈ P7) (hP : P = (p : Int)) (hI : I = (i : Int)) (hi : i < p) : ∃ y : SV, S_law_51 [x0, .d tokD, .d (.int P), .d (.int Q), .d (.int I), x5, x6, x7, x8, x9, x10, x11, x12, x13, x14, x15, x16, x17, x18, x19, x20, x21, .d (.list (wid p N)), .own (wid p (aN2 p N i 0)), x24, x25, x26, x27] g = .nx [x0, .d tokD, .d (.int P), .d (.int Q), .d (.int I), x5, x6, x7, x8, x9, x10, x11, x12, x13, x14, x15, x16, x17, x18, x19, x20, x21, .d (.list (wid p N)), .own (wid p (aN2 p N i p)), y, x25, x26, x27] g := by
  obtain ⟨hp3, hp19⟩ := p7_b p hp
  obtain ⟨ρ1, g1, ⟨rfl, y, rfl⟩, hw⟩ := sFor_run (fi := iRan1 (aCons (eV 2) aNil)) (b := bName 24) (f := B_law_51) (items := upTo 0 p) (ρ := [x0, .d tokD, .d (.int P), .d (.int Q), .d (.int I), x5, x6, x7, x8, x9, x10, x11, x12, x13, x14, x15, x16, x17, x18, x19, x20, x21, .d (.list (wid p N)), .own (wid p (aN2 p N i 0)), x24, x25, x26, x27]) (g := g) (g1 := g)
    (fun j ρ g' => g' = g ∧ ∃ y : SV, ρ = [x0, .d tokD, .d (.int P), .d (.int Q), .d (.int I), x5, x6, x7, x8, x9, x10, x11, x12, x13, x14, x15, x16, x17, x18, x19, x20, x21, .d (.list (wid p N)), .own (wid p (aN2 p N i j)), y, x25, x26, x27]) (by
      have e := ran1_int (j := P) (g := g) (by omega) (by omega)
      rw [show P.toNat = p by omega] at e
      generalize wid p (aN2 p N i 0) = L at *
      generalize wid p N = L2 at *
      simp (disch := omega) only [e, eV_ap, eC_ap, eBin_ap, eNeg_ap, tVal_ap, eIsN_ap, eNotN_ap, eChain_ap, tAndF_ap, tOrF_ap, tNotF_ap, tTru_ap, eAnd_ap, eOr_ap, eNot_ap, eIf_ap, aNil_ap, aCons_ap, eTup_ap, eLst_ap, oNone_ap, oSome_ap, eSl_ap, eCall_ap, iLst_ap, iTpl_ap, iRan2_apN, eOf_ap, oLst_ap, oCat_ap, oRep_ap, oSl_ap, oList_ap, oComp_ap, tYesF_ap, sNil_ap, sSeq_th, sBrk_ap, sCnt_ap, sExpr_ap, sRet_ap, sRetN_ap, sIf_ap, sSet_ap, sSetO_ap, sAsg_ap, sPar_ap, sPar3_ap, sAug_ap, sApp_ap, sExt_ap, sSetIx_ap, sFrz_ap, eIxO_ap, eLenO_ap, eIxA_ap, eLenA_ap, vOf_ap, vCons_ap, vOwn_ap, vOwn2_ap, sTup_ap, iSeq_ap, sRaise_ap, sTry_ap, eExF_ap, tIfF_ap, eRev_ap, eRevA_ap, eRevF_ap, th_nx, th_rt, th_bk, th_ct, th_exc, bind_ok, bind_exc, go_ok, go_exc, opAdd_int, opSub_int, opMul_a, opMul_b, opDiv_pos, opDiv_wide, opMod_pos, opI_int, opEq_int, opNe_int, opEq_bool, opNe_bool, atI_0, atI_1, atI_2, atI_3, opIx_list, opIx_tuple, iRan1_ap, bLen_list, bLen_tuple, bInt_int, bAbs_int, bName, bNil, bCons, bTup, List.getElem?_cons_zero, List.getElem?_cons_succ, List.set_cons_zero, List.set_cons_succ, List.length_cons, List.length_nil, noTok, if_true, if_false, decide_true, decide_false, Bool.not_true, Bool.not_false, setAll, List.map_cons, List.map_nil, truD, Bool.true_eq_false, Bool.false_eq_true, Option.bind_some, true_and, and_true, List.replicate, startR, List.cons_append, List.nil_append, Nat.sub_self, reduceIte, ↓reduceIte, isNon, LIM_eq, and_self, List.map_append, List.length_map, Int.toNat_natCast, Nat.zero_le, Nat.reduceLeDiff, Int.reduceNeg, Int.reduceLE, Int.reduceLT, Int.zero_add, ran2_int, noEx, eq_self, dI, dP, dPs]) ⟨rfl, x24, rfl⟩ (by
      rintro j hj ρ g' ⟨rfl, y, rfl⟩
      rw [upTo_len] at hj
      obtain ⟨X, hX⟩ : ∃ X : Int, X = (j : Int) := ⟨_, rfl⟩
      refine ⟨[x0, .d tokD, .d (.int P), .d (.int Q), .d (.int I), x5, x6, x7, x8, x9, x10, x11, x12, x13, x14, x15, x16, x17, x18, x19, x20, x21, .d (.list (wid p N)), .own (wid p (aN2 p N i j)), .d (.int X), x25, x26, x27], [x0, .d tokD, .d (.int P), .d (.int Q), .d (.int I), x5, x6, x7, x8, x9, x10, x11, x12, x13, x14, x15, x16, x17, x18, x19, x20, x21, .d (.list (wid p N)), .own (wid p (aN2 p N i (j + 1))), .d (.int X), x25, x26, x27], g', by
        rw [upTo_get (by rw [upTo_len]; exact hj), Int.zero_add, ← hX]
        rfl, .inl ?_, rfl, _, rfl⟩
      have hX2 : X * X = ((j * j : Nat) : Int) := by rw [hX, Int.natCast_mul]
      have hz : (I + X * X) % P = (((i + j * j) % p : Nat) : Int) := by
        rw [hX2, hI, hP, ← Int.natCast_add, mod_nat]
      have hml : (i + j * j) % p < p := Nat.mod_lt _ (by omega)
      have hmul : opMul (.int X) (.int X) g' = .ok (.int (X * X)) g' := opMul_a (by omega) (by omega)
      have hmod : opMod (.int (I + X * X)) (.int P) g' = .ok (.int ((I + X * X) % P)) g' := opMod_pos (by omega)
      have i1 : atI (wid p N) I = some (.int (N i)) := atI_wid hI hi
      unfold B_law_51 S_law_52
      refine Eq.trans (set_add (p := p) (W := aN2 p N i j) (m := (i + j * j) % p) (v := N i) (z := (I + X * X) % P) rfl ?_ hz hml ?_) ?_
      · generalize wid p (aN2 p N i j) = L at *
        generalize wid p N = L2 at *
        simp (disch := omega) only [hmul, hmod, eV_ap, eC_ap, eBin_ap, eNeg_ap, tVal_ap, eIsN_ap, eNotN_ap, eChain_ap, tAndF_ap, tOrF_ap, tNotF_ap, tTru_ap, eAnd_ap, eOr_ap, eNot_ap, eIf_ap, aNil_ap, aCons_ap, eTup_ap, eLst_ap, oNone_ap, oSome_ap, eSl_ap, eCall_ap, iLst_ap, iTpl_ap, iRan2_apN, eOf_ap, oLst_ap, oCat_ap, oRep_ap, oSl_ap, oList_ap, oComp_ap, tYesF_ap, sNil_ap, sSeq_th, sBrk_ap, sCnt_ap, sExpr_ap, sRet_ap, sRetN_ap, sIf_ap, sSet_ap, sSetO_ap, sAsg_ap, sPar_ap, sPar3_ap, sAug_ap, sApp_ap, sExt_ap, sSetIx_ap, sFrz_ap, eIxO_ap, eLenO_ap, eIxA_ap, eLenA_ap, vOf_ap, vCons_ap, vOwn_ap, vOwn2_ap, sTup_ap, iSeq_ap, sRaise_ap, sTry_ap, eExF_ap, tIfF_ap, eRev_ap, eRevA_ap, eRevF_ap, th_nx, th_rt, th_bk, th_ct, th_exc, bind_ok, bind_exc, go_ok, go_exc, opAdd_int, opSub_int, opDiv_pos, opDiv_wide, opI_int, opEq_int, opNe_int, opEq_bool, opNe_bool, atI_0, atI_1, atI_2, atI_3, opIx_list, opIx_tuple, iRan1_ap, bLen_list, bLen_tuple, bInt_int, bAbs_int, bName, bNil, bCons, bTup, List.getElem?_cons_zero, List.getElem?_cons_succ, List.set_cons_zero, List.set_cons_succ, List.length_cons, List.length_nil, noTok, if_true, if_false, decide_true, decide_false, Bool.not_true, Bool.not_false, setAll, List.map_cons, List.map_nil, truD, Bool.true_eq_false, Bool.false_eq_true, Option.bind_some, true_and, and_true, List.replicate, startR, List.cons_append, List.nil_append, Nat.sub_self, reduceIte, ↓reduceIte, isNon, LIM_eq, and_self, List.map_append, List.length_map, Int.toNat_natCast, Nat.zero_le, Nat.reduceLeDiff, Int.reduceNeg, Int.reduceLE, Int.reduceLT, Int.zero_add, ran1_int, ran2_int, noEx, eq_self, dI, dP, dPs]
      · generalize wid p (aN2 p N i j) = L at *
        generalize wid p N = L2 at *
        simp (disch := omega) only [i1, eV_ap, eC_ap, eBin_ap, eNeg_ap, tVal_ap, eIsN_ap, eNotN_ap, eChain_ap, tAndF_ap, tOrF_ap, tNotF_ap, tTru_ap, eAnd_ap, eOr_ap, eNot_ap, eIf_ap, aNil_ap, aCons_ap, eTup_ap, eLst_ap, oNone_ap, oSome_ap, eSl_ap, eCall_ap, iLst_ap, iTpl_ap, iRan2_apN, eOf_ap, oLst_ap, oCat_ap, oRep_ap, oSl_ap, oList_ap, oComp_ap, tYesF_ap, sNil_ap, sSeq_th, sBrk_ap, sCnt_ap, sExpr_ap, sRet_ap, sRetN_ap, sIf_ap, sSet_ap, sSetO_ap, sAsg_ap, sPar_ap, sPar3_ap, sAug_ap, sApp_ap, sExt_ap, sSetIx_ap, sFrz_ap, eIxO_ap, eLenO_ap, eIxA_ap, eLenA_ap, vOf_ap, vCons_ap, vOwn_ap, vOwn2_ap, sTup_ap, iSeq_ap, sRaise_ap, sTry_ap, eExF_ap, tIfF_ap, eRev_ap, eRevA_ap, eRevF_ap, th_nx, th_rt, th_bk, th_ct, th_exc, bind_ok, bind_exc, go_ok, go_exc, opAdd_int, opSub_int, opMul_a, opMul_b, opDiv_pos, opDiv_wide, opMod_pos, opI_int, opEq_int, opNe_int, opEq_bool, opNe_bool, atI_0, atI_1, atI_2, atI_3, opIx_list, opIx_tuple, iRan1_ap, bLen_list, bLen_tuple, bInt_int, bAbs_int, bName, bNil, bCons, bTup, List.getElem?_cons_zero, List.getElem?_cons_succ, List.set_cons_zero, List.set_cons_succ, List.length_cons, List.length_nil, noTok, if_true, if_false, decide_true, decide_false, Bool.not_true, Bool.not_false, setAll, List.map_cons, List.map_nil, truD, Bool.true_eq_false, Bool.false_eq_true, Option.bind_some, true_and, and_true, List.replicate, startR, List.cons_append, List.nil_append, Nat.sub_self, reduceIte, ↓reduceIte, isNon, LIM_eq, and_self, List.map_append, List.length_map, Int.toNat_natCast, Nat.zero_le, Nat.reduceLeDiff, Int.reduceNeg, Int.reduceLE, Int.reduceLT, Int.zero_add, ran1_int, ran2_int, noEx, eq_self, dI, dP, dPs]
      · show SO.nx [x0, .d tokD, .d (.int P), .d (.int Q), .d (.int I), x5, x6, x7, x8, x9, x10, x11, x12, x13, x14, x15, x16, x17, x18, x19, x20, x21, .d (.list (wid p N)), .own (wid p fun k => if k = (i + j * j) % p then aN2 p N i j ((i + j * j) % p) + N i else aN2 p N i j k), .d (.int X), x25, x26, x27] g' = _
        rw [acc_step (W := aN2 p N i j) (v := N i) (m := (i + j * j) % p) (f := aN2 p N i) (i := j + 1) fun k => Int.add_assoc _ _ _])
  rw [upTo_len] at hw
  exact ⟨y, hw⟩
theorem t50 {N : Nat → Int} (hp : p ∈ P7) (hP : P = (p : Int)) : ∃ y z : SV, S_law_50 [x0, .d tokD, .d (.int P), .d (.int Q), x4, x5, x6, x7, x8, x9, x10, x11, x12, x13, x14, x15, x16, x17, x18, x19, x20, x21, .d (.list (wid p N)), .own (wid p fun _ => 0), x24, x25, x26, x27] g = .nx [x0, .d tokD, .d (.int P), .d (.int Q), y, x5, x6, x7, x8, x9, x10, x11, x12, x13, x14, x15, x16, x17, x18, x19, x20, x21, .d (.list (wid p N)), .own (wid p (aN p N p)), z, x25, x26, x27] g := by
  obtain ⟨hp3, hp19⟩ := p7_b p hp
  obtain ⟨ρ1, g1, ⟨rfl, y, z, rfl⟩, hw⟩ := sFor_run (fi := iRan1 (aCons (eV 2) aNil)) (b := bName 4) (f := B_law_50) (items := upTo 0 p) (ρ := [x0, .d tokD, .d (.int P), .d (.int Q), x4, x5, x6, x7, x8, x9, x10, x11, x12, x13, x14, x15, x16, x17, x18, x19, x20, x21, .d (.list (wid p N)), .own (wid p (aN p N 0)), x24, x25, x26, x27]) (g := g) (g1 := g)
    (fun j ρ g' => g' = g ∧ ∃ y z : SV, ρ = [x0, .d tokD, .d (.int P), .d (.int Q), y, x5, x6, x7, x8, x9, x10, x11, x12, x13, x14, x15, x16, x17, x18, x19, x20, x21, .d (.list (wid p N)), .own (wid p (aN p N j)), z, x25, x26, x27]) (by
      have e := ran1_int (j := P) (g := g) (by omega) (by omega)
      rw [show P.toNat = p by omega] at e
      generalize wid p (aN p N 0) = L at *
      generalize wid p N = L2 at *
      simp (disch := omega) only [e, eV_ap, eC_ap, eBin_ap, eNeg_ap, tVal_ap, eIsN_ap, eNotN_ap, eChain_ap, tAndF_ap, tOrF_ap, tNotF_ap, tTru_ap, eAnd_ap, eOr_ap, eNot_ap, eIf_ap, aNil_ap, aCons_ap, eTup_ap, eLst_ap, oNone_ap, oSome_ap, eSl_ap, eCall_ap, iLst_ap, iTpl_ap, iRan2_apN, eOf_ap, oLst_ap, oCat_ap, oRep_ap, oSl_ap, oList_ap, oComp_ap, tYesF_ap, sNil_ap, sSeq_th, sBrk_ap, sCnt_ap, sExpr_ap, sRet_ap, sRetN_ap, sIf_ap, sSet_ap, sSetO_ap, sAsg_ap, sPar_ap, sPar3_ap, sAug_ap, sApp_ap, sExt_ap, sSetIx_ap, sFrz_ap, eIxO_ap, eLenO_ap, eIxA_ap, eLenA_ap, vOf_ap, vCons_ap, vOwn_ap, vOwn2_ap, sTup_ap, iSeq_ap, sRaise_ap, sTry_ap, eExF_ap, tIfF_ap, eRev_ap, eRevA_ap, eRevF_ap, th_nx, th_rt, th_bk, th_ct, th_exc, bind_ok, bind_exc, go_ok, go_exc, opAdd_int, opSub_int, opMul_a, opMul_b, opDiv_pos, opDiv_wide, opMod_pos, opI_int, opEq_int, opNe_int, opEq_bool, opNe_bool, atI_0, atI_1, atI_2, atI_3, opIx_list, opIx_tuple, iRan1_ap, bLen_list, bLen_tuple, bInt_int, bAbs_int, bName, bNil, bCons, bTup, List.getElem?_cons_zero, List.getElem?_cons_succ, List.set_cons_zero, List.set_cons_succ, List.length_cons, List.length_nil, noTok, if_true, if_false, decide_true, decide_false, Bool.not_true, Bool.not_false, setAll, List.map_cons, List.map_nil, truD, Bool.true_eq_false, Bool.false_eq_true, Option.bind_some, true_and, and_true, List.replicate, startR, List.cons_append, List.nil_append, Nat.sub_self, reduceIte, ↓reduceIte, isNon, LIM_eq, and_self, List.map_append, List.length_map, Int.toNat_natCast, Nat.zero_le, Nat.reduceLeDiff, Int.reduceNeg, Int.reduceLE, Int.reduceLT, Int.zero_add, ran2_int, noEx, eq_self, dI, dP, dPs]) ⟨rfl, x4, x24, rfl⟩ (by
      rintro i hi ρ g' ⟨rfl, y, z, rfl⟩
      rw [upTo_len] at hi
      obtain ⟨I, hI⟩ : ∃ I : Int, I = (i : Int) := ⟨_, rfl⟩
      obtain ⟨z', h⟩ := t51 (x0 := x0) (x5 := x5) (x6 := x6) (x7 := x7) (x8 := x8) (x9 := x9) (x10 := x10) (x11 := x11) (x12 := x12) (x13 := x13) (x14 := x14) (x15 := x15) (x16 := x16) (x17 := x17) (x18 := x18) (x19 := x19) (x20 := x20) (x21 := x21) (x24 := z) (x25 := x25) (x26 := x26) (x27 := x27) (g := g') (Q := Q) (N := N) hp hP hI hi
      have ea : aN2 p N i 0 = aN p N i := funext fun k => Int.add_zero _
      rw [ea] at h
      exact ⟨[x0, .d tokD, .d (.int P), .d (.int Q), .d (.int I), x5, x6, x7, x8, x9, x10, x11, x12, x13, x14, x15, x16, x17, x18, x19, x20, x21, .d (.list (wid p N)), .own (wid p (aN p N i)), z, x25, x26, x27], [x0, .d tokD, .d (.int P), .d (.int Q), .d (.int I), x5, x6, x7, x8, x9, x10, x11, x12, x13, x14, x15, x16, x17, x18, x19, x20, x21, .d (.list (wid p N)), .own (wid p (aN p N (i + 1))), z', x25, x26, x27], g', by
        rw [upTo_get (by rw [upTo_len]; exact hi), Int.zero_add, ← hI]
        rfl, .inl h, rfl, _, _, rfl⟩)
  rw [upTo_len] at hw
  exact ⟨y, z, hw⟩
theorem t48 {t : Nat} {T : Int} (hp : p ∈ P7) (hP : P = (p : Int)) (hT : T = (t : Int)) (ht : t ≤ 3) : ∃ y4 y10 y23 y24 : SV, S_law_48 [x0, .d tokD, .d (.int P), .d (.int Q), x4, x5, x6, x7, x8, x9, x10, x11, x12, x13, x14, x15, x16, x17, x18, x19, .d (.int T), x21, .d (.list (wid p (Nn p 0))), x23, x24, x25, x26, x27] g = .nx [x0, .d tokD, .d (.int P), .d (.int Q), y4, x5, x6, x7, x8, x9, y10, x11, x12, x13, x14, x15, x16, x17, x18, x19, .d (.int T), x21, .d (.list (wid p (Nn p t))), y23, y24, x25, x26, x27] g := by
  obtain ⟨hp3, hp19⟩ := p7_b p hp
  obtain ⟨ρ1, g1, ⟨rfl, y4, y10, y23, y24, rfl⟩, hw⟩ := sFor_run (fi := iRan1 (aCons (eV 20) aNil)) (b := bName 10) (f := B_law_48) (items := upTo 0 t) (ρ := [x0, .d tokD, .d (.int P), .d (.int Q), x4, x5, x6, x7, x8, x9, x10, x11, x12, x13, x14, x15, x16, x17, x18, x19, .d (.int T), x21, .d (.list (wid p (Nn p 0))), x23, x24, x25, x26, x27]) (g := g) (g1 := g)
    (fun j ρ g' => g' = g ∧ ∃ y4 y10 y23 y24 : SV, ρ = [x0, .d tokD, .d (.int P), .d (.int Q), y4, x5, x6, x7, x8, x9, y10, x11, x12, x13, x14, x15, x16, x17, x18, x19, .d (.int T), x21, .d (.list (wid p (Nn p j))), y23, y24, x25, x26, x27]) (by
      have e := ran1_int (j := T) (g := g) (by omega) (by omega)
      rw [show T.toNat = t by omega] at e
      generalize wid p (Nn p 0) = L at *
      simp (disch := omega) only [e, eV_ap, eC_ap, eBin_ap, eNeg_ap, tVal_ap, eIsN_ap, eNotN_ap, eChain_ap, tAndF_ap, tOrF_ap, tNotF_ap, tTru_ap, eAnd_ap, eOr_ap, eNot_ap, eIf_ap, aNil_ap, aCons_ap, eTup_ap, eLst_ap, oNone_ap, oSome_ap, eSl_ap, eCall_ap, iLst_ap, iTpl_ap, iRan2_apN, eOf_ap, oLst_ap, oCat_ap, oRep_ap, oSl_ap, oList_ap, oComp_ap, tYesF_ap, sNil_ap, sSeq_th, sBrk_ap, sCnt_ap, sExpr_ap, sRet_ap, sRetN_ap, sIf_ap, sSet_ap, sSetO_ap, sAsg_ap, sPar_ap, sPar3_ap, sAug_ap, sApp_ap, sExt_ap, sSetIx_ap, sFrz_ap, eIxO_ap, eLenO_ap, eIxA_ap, eLenA_ap, vOf_ap, vCons_ap, vOwn_ap, vOwn2_ap, sTup_ap, iSeq_ap, sRaise_ap, sTry_ap, eExF_ap, tIfF_ap, eRev_ap, eRevA_ap, eRevF_ap, th_nx, th_rt, th_bk, th_ct, th_exc, bind_ok, bind_exc, go_ok, go_exc, opAdd_int, opSub_int, opMul_a, opMul_b, opDiv_pos, opDiv_wide, opMod_pos, opI_int, opEq_int, opNe_int, opEq_bool, opNe_bool, atI_0, atI_1, atI_2, atI_3, opIx_list, opIx_tuple, iRan1_ap, bLen_list, bLen_tuple, bInt_int, bAbs_int, bName, bNil, bCons, bTup, List.getElem?_cons_zero, List.getElem?_cons_succ, List.set_cons_zero, List.set_cons_succ, List.length_cons, List.length_nil, noTok, if_true, if_false, decide_true, decide_false, Bool.not_true, Bool.not_false, setAll, List.map_cons, List.map_nil, truD, Bool.true_eq_false, Bool.false_eq_true, Option.bind_some, true_and, and_true, List.replicate, startR, List.cons_append, List.nil_append, Nat.sub_self, reduceIte, ↓reduceIte, isNon, LIM_eq, and_self, List.map_append, List.length_map, Int.toNat_natCast, Nat.zero_le, Nat.reduceLeDiff, Int.reduceNeg, Int.reduceLE, Int.reduceLT, Int.zero_add, ran2_int, noEx, eq_self, dI, dP, dPs]) ⟨rfl, x4, x10, x23, x24, rfl⟩ (by
      rintro i hi ρ g' ⟨rfl, y4, y10, y23, y24, rfl⟩
      have ho := rep_zero (g := g') (p := p) (P := P) (fe := eV 2) (ρ := [x0, .d tokD, .d (.int P), .d (.int Q), y4, x5, x6, x7, x8, x9, .d (upTo 0 t)[i], x11, x12, x13, x14, x15, x16, x17, x18, x19, .d (.int T), x21, .d (.list (wid p (Nn p i))), y23, y24, x25, x26, x27]) hP (by omega) rfl
      obtain ⟨z4, z24, h⟩ := t50 (x0 := x0) (x4 := y4) (x5 := x5) (x6 := x6) (x7 := x7) (x8 := x8) (x9 := x9) (x10 := .d (upTo 0 t)[i]) (x11 := x11) (x12 := x12) (x13 := x13) (x14 := x14) (x15 := x15) (x16 := x16) (x17 := x17) (x18 := x18) (x19 := x19) (x20 := .d (.int T)) (x21 := x21) (x24 := y24) (x25 := x25) (x26 := x26) (x27 := x27) (g := g') (Q := Q) (N := Nn p i) hp hP
      refine ⟨[x0, .d tokD, .d (.int P), .d (.int Q), y4, x5, x6, x7, x8, x9, .d (upTo 0 t)[i], x11, x12, x13, x14, x15, x16, x17, x18, x19, .d (.int T), x21, .d (.list (wid p (Nn p i))), y23, y24, x25, x26, x27], [x0, .d tokD, .d (.int P), .d (.int Q), z4, x5, x6, x7, x8, x9, .d (upTo 0 t)[i], x11, x12, x13, x14, x15, x16, x17, x18, x19, .d (.int T), x21, .d (.list (wid p (Nn p (i + 1)))), .d (.list (wid p (Nn p (i + 1)))), z24, x25, x26, x27], g', rfl, .inl ?_, rfl, _, _, _, _, rfl⟩
      refine seq_nx (ρ1 := [x0, .d tokD, .d (.int P), .d (.int Q), y4, x5, x6, x7, x8, x9, .d (upTo 0 t)[i], x11, x12, x13, x14, x15, x16, x17, x18, x19, .d (.int T), x21, .d (.list (wid p (Nn p i))), .own (wid p fun _ => 0), y24, x25, x26, x27]) (g1 := g') (by
        show ((oRep (eLst (aCons (eC (.int 0)) aNil)) (eV 2)) _ g').go _ _ = _
        rw [ho, go_ok]
        rfl) ?_
      refine seq_nx h ?_
      refine frz_own rfl ?_
      change S_law_53 [x0, .d tokD, .d (.int P), .d (.int Q), z4, x5, x6, x7, x8, x9, .d (upTo 0 t)[i], x11, x12, x13, x14, x15, x16, x17, x18, x19, .d (.int T), x21, .d (.list (wid p (Nn p i))), .d (.list (wid p (Nn p (i + 1)))), z24, x25, x26, x27] g' = _
      generalize (upTo 0 t)[i] = Y at *
      generalize wid p (Nn p (i + 1)) = L at *
      generalize wid p (Nn p i) = L2 at *
      simp (disch := omega) only [S_law_53, eV_ap, eC_ap, eBin_ap, eNeg_ap, tVal_ap, eIsN_ap, eNotN_ap, eChain_ap, tAndF_ap, tOrF_ap, tNotF_ap, tTru_ap, eAnd_ap, eOr_ap, eNot_ap, eIf_ap, aNil_ap, aCons_ap, eTup_ap, eLst_ap, oNone_ap, oSome_ap, eSl_ap, eCall_ap, iLst_ap, iTpl_ap, iRan2_apN, eOf_ap, oLst_ap, oCat_ap, oRep_ap, oSl_ap, oList_ap, oComp_ap, tYesF_ap, sNil_ap, sSeq_th, sBrk_ap, sCnt_ap, sExpr_ap, sRet_ap, sRetN_ap, sIf_ap, sSet_ap, sSetO_ap, sAsg_ap, sPar_ap, sPar3_ap, sAug_ap, sApp_ap, sExt_ap, sSetIx_ap, sFrz_ap, eIxO_ap, eLenO_ap, eIxA_ap, eLenA_ap, vOf_ap, vCons_ap, vOwn_ap, vOwn2_ap, sTup_ap, iSeq_ap, sRaise_ap, sTry_ap, eExF_ap, tIfF_ap, eRev_ap, eRevA_ap, eRevF_ap, th_nx, th_rt, th_bk, th_ct, th_exc, bind_ok, bind_exc, go_ok, go_exc, opAdd_int, opSub_int, opMul_a, opMul_b, opDiv_pos, opDiv_wide, opMod_pos, opI_int, opEq_int, opNe_int, opEq_bool, opNe_bool, atI_0, atI_1, atI_2, atI_3, opIx_list, opIx_tuple, iRan1_ap, bLen_list, bLen_tuple, bInt_int, bAbs_int, bName, bNil, bCons, bTup, List.getElem?_cons_zero, List.getElem?_cons_succ, List.set_cons_zero, List.set_cons_succ, List.length_cons, List.length_nil, noTok, if_true, if_false, decide_true, decide_false, Bool.not_true, Bool.not_false, setAll, List.map_cons, List.map_nil, truD, Bool.true_eq_false, Bool.false_eq_true, Option.bind_some, true_and, and_true, List.replicate, startR, List.cons_append, List.nil_append, Nat.sub_self, reduceIte, ↓reduceIte, isNon, LIM_eq, and_self, List.map_append, List.length_map, Int.toNat_natCast, Nat.zero_le, Nat.reduceLeDiff, Int.reduceNeg, Int.reduceLE, Int.reduceLT, Int.zero_add, ran1_int, ran2_int, noEx, eq_self, dI, dP, dPs])
  rw [upTo_len] at hw
  exact ⟨y4, y10, y23, y24, hw⟩
theorem t54 {t v : Nat} {T V : Int} (hp : p ∈ P7) (hP : P = (p : Int)) (hT : T = (t : Int)) (ht : t ≤ 3) (hV : V = (v : Int)) (hv : v ≤ 39) : S_law_54 [x0, .d tokD, .d (.int P), .d (.int Q), x4, x5, x6, x7, x8, x9, x10, x11, x12, x13, x14, x15, x16, x17, x18, x19, .d (.int T), .d (.int V), .d (.list (wid p (Nn p t))), x23, x24, x25, x26, x27] g = .nx [x0, .d tokD, .d (.int P), .d (.int Q), x4, x5, x6, x7, x8, x9, x10, x11, x12, x13, x14, x15, x16, x17, x18, x19, .d (.int T), .d (.int V), .d (.list (wid p (Nn p t))), x23, x24, x25, x26, x27] g := by
  obtain ⟨hp3, hp19⟩ := p7_b p hp
  have h1 := m_many_sums_eq (g := g) hp hP hT ht hV (by omega)
  have hmod : opMod (.int V) (.int P) g = .ok (.int (V % P)) g := opMod_pos (by omega)
  have hz : V % P = ((v % p : Nat) : Int) := by rw [hV, hP, mod_nat]
  have i1 : atI (wid p (Nn p t)) (V % P) = some (.int (Nn p t (v % p))) := atI_wid hz (Nat.mod_lt _ (by omega))
  generalize Nn p t (v % p) = X at *
  generalize wid p (Nn p t) = L at *
  simp (disch := omega) only [S_law_54, h1, hmod, i1, eV_ap, eC_ap, eBin_ap, eNeg_ap, tVal_ap, eIsN_ap, eNotN_ap, eChain_ap, tAndF_ap, tOrF_ap, tNotF_ap, tTru_ap, eAnd_ap, eOr_ap, eNot_ap, eIf_ap, aNil_ap, aCons_ap, eTup_ap, eLst_ap, oNone_ap, oSome_ap, eSl_ap, eCall_ap, iLst_ap, iTpl_ap, iRan2_apN, eOf_ap, oLst_ap, oCat_ap, oRep_ap, oSl_ap, oList_ap, oComp_ap, tYesF_ap, sNil_ap, sSeq_th, sBrk_ap, sCnt_ap, sExpr_ap, sRet_ap, sRetN_ap, sIf_ap, sSet_ap, sSetO_ap, sAsg_ap, sPar_ap, sPar3_ap, sAug_ap, sApp_ap, sExt_ap, sSetIx_ap, sFrz_ap, eIxO_ap, eLenO_ap, eIxA_ap, eLenA_ap, vOf_ap, vCons_ap, vOwn_ap, vOwn2_ap, sTup_ap, iSeq_ap, sRaise_ap, sTry_ap, eExF_ap, tIfF_ap, eRev_ap, eRevA_ap, eRevF_ap, th_nx, th_rt, th_bk, th_ct, th_exc, bind_ok, bind_exc, go_ok, go_exc, opAdd_int, opSub_int, opMul_a, opMul_b, opDiv_pos, opDiv_wide, opI_int, opEq_int, opNe_int, opEq_bool, opNe_bool, atI_0, atI_1, atI_2, atI_3, opIx_list, opIx_tuple, iRan1_ap, bLen_list, bLen_tuple, bInt_int, bAbs_int, bName, bNil, bCons, bTup, List.getElem?_cons_zero, List.getElem?_cons_succ, List.set_cons_zero, List.set_cons_succ, List.length_cons, List.length_nil, noTok, if_true, if_false, decide_true, decide_false, Bool.not_true, Bool.not_false, setAll, List.map_cons, List.map_nil, truD, Bool.true_eq_false, Bool.false_eq_true, Option.bind_some, true_and, and_true, List.replicate, startR, List.cons_append, List.nil_append, Nat.sub_self, reduceIte, ↓reduceIte, isNon, LIM_eq, and_self, List.map_append, List.length_map, Int.toNat_natCast, Nat.zero_le, Nat.reduceLeDiff, Int.reduceNeg, Int.reduceLE, Int.reduceLT, Int.zero_add, ran1_int, ran2_int, noEx, eq_self, dI, dP, dPs]
theorem t46 {t v : Nat} {T V : Int} (hp : p ∈ P7) (hP : P = (p : Int)) (hT : T = (t : Int)) (ht : t ≤ 3) (hV : V = (v : Int)) (hv : v ≤ 39) : ∃ y4 y10 y22 y23 y24 : SV, S_law_46 [x0, .d tokD, .d (.int P), .d (.int Q), x4, x5, x6, x7, x8, x9, x10, x11, x12, x13, x14, x15, x16, x17, x18, x19, .d (.int T), .d (.int V), x22, x23, x24, x25, x26, x27] g = .nx [x0, .d tokD, .d (.int P), .d (.int Q), y4, x5, x6, x7, x8, x9, y10, x11, x12, x13, x14, x15, x16, x17, x18, x19, .d (.int T), .d (.int V), y22, y23, y24, x25, x26, x27] g := by
  have hc : ∃ c : Bool, (tOrF (tVal (eBin opLt (eV 2) (eC (.int 12)))) (tVal (eBin opLt (eV 20) (eC (.int 3))))) [x0, .d tokD, .d (.int P), .d (.int Q), x4, x5, x6, x7, x8, x9, x10, x11, x12, x13, x14, x15, x16, x17, x18, x19, .d (.int T), .d (.int V), x22, x23, x24, x25, x26, x27] g = .ok c g := by
    by_cases h1 : P < 12
    · exact ⟨true, by simp (disch := omega) only [h1, eV_ap, eC_ap, eBin_ap, eNeg_ap, tVal_ap, eIsN_ap, eNotN_ap, eChain_ap, tAndF_ap, tOrF_ap, tNotF_ap, tTru_ap, eAnd_ap, eOr_ap, eNot_ap, eIf_ap, aNil_ap, aCons_ap, eTup_ap, eLst_ap, oNone_ap, oSome_ap, eSl_ap, eCall_ap, iLst_ap, iTpl_ap, iRan2_apN, eOf_ap, oLst_ap, oCat_ap, oRep_ap, oSl_ap, oList_ap, oComp_ap, tYesF_ap, sNil_ap, sSeq_th, sBrk_ap, sCnt_ap, sExpr_ap, sRet_ap, sRetN_ap, sIf_ap, sSet_ap, sSetO_ap, sAsg_ap, sPar_ap, sPar3_ap, sAug_ap, sApp_ap, sExt_ap, sSetIx_ap, sFrz_ap, eIxO_ap, eLenO_ap, eIxA_ap, eLenA_ap, vOf_ap, vCons_ap, vOwn_ap, vOwn2_ap, sTup_ap, iSeq_ap, sRaise_ap, sTry_ap, eExF_ap, tIfF_ap, eRev_ap, eRevA_ap, eRevF_ap, th_nx, th_rt, th_bk, th_ct, th_exc, bind_ok, bind_exc, go_ok, go_exc, opAdd_int, opSub_int, opMul_a, opMul_b, opDiv_pos, opDiv_wide, opMod_pos, opI_int, opEq_int, opNe_int, opEq_bool, opNe_bool, atI_0, atI_1, atI_2, atI_3, opIx_list, opIx_tuple, iRan1_ap, bLen_list, bLen_tuple, bInt_int, bAbs_int, bName, bNil, bCons, bTup, List.getElem?_cons_zero, List.getElem?_cons_succ, List.set_cons_zero, List.set_cons_succ, List.length_cons, List.length_nil, noTok, if_true, if_false, decide_true, decide_false, Bool.not_true, Bool.not_false, setAll, List.map_cons, List.map_nil, truD, Bool.true_eq_false, Bool.false_eq_true, Option.bind_some, true_and, and_true, List.replicate, startR, List.cons_append, List.nil_append, Nat.sub_self, reduceIte, ↓reduceIte, isNon, LIM_eq, and_self, List.map_append, List.length_map, Int.toNat_natCast, Nat.zero_le, Nat.reduceLeDiff, Int.reduceNeg, Int.reduceLE, Int.reduceLT, Int.zero_add, ran1_int, ran2_int, noEx, eq_self, dI, dP, dPs]⟩
    · by_cases h2 : T < 3
      · exact ⟨true, by simp (disch := omega) only [h1, h2, eV_ap, eC_ap, eBin_ap, eNeg_ap, tVal_ap, eIsN_ap, eNotN_ap, eChain_ap, tAndF_ap, tOrF_ap, tNotF_ap, tTru_ap, eAnd_ap, eOr_ap, eNot_ap, eIf_ap, aNil_ap, aCons_ap, eTup_ap, eLst_ap, oNone_ap, oSome_ap, eSl_ap, eCall_ap, iLst_ap, iTpl_ap, iRan2_apN, eOf_ap, oLst_ap, oCat_ap, oRep_ap, oSl_ap, oList_ap, oComp_ap, tYesF_ap, sNil_ap, sSeq_th, sBrk_ap, sCnt_ap, sExpr_ap, sRet_ap, sRetN_ap, sIf_ap, sSet_ap, sSetO_ap, sAsg_ap, sPar_ap, sPar3_ap, sAug_ap, sApp_ap, sExt_ap, sSetIx_ap, sFrz_ap, eIxO_ap, eLenO_ap, eIxA_ap, eLenA_ap, vOf_ap, vCons_ap, vOwn_ap, vOwn2_ap, sTup_ap, iSeq_ap, sRaise_ap, sTry_ap, eExF_ap, tIfF_ap, eRev_ap, eRevA_ap, eRevF_ap, th_nx, th_rt, th_bk, th_ct, th_exc, bind_ok, bind_exc, go_ok, go_exc, opAdd_int, opSub_int, opMul_a, opMul_b, opDiv_pos, opDiv_wide, opMod_pos, opI_int, opEq_int, opNe_int, opEq_bool, opNe_bool, atI_0, atI_1, atI_2, atI_3, opIx_list, opIx_tuple, iRan1_ap, bLen_list, bLen_tuple, bInt_int, bAbs_int, bName, bNil, bCons, bTup, List.getElem?_cons_zero, List.getElem?_cons_succ, List.set_cons_zero, List.set_cons_succ, List.length_cons, List.length_nil, noTok, if_true, if_false, decide_true, decide_false, Bool.not_true, Bool.not_false, setAll, List.map_cons, List.map_nil, truD, Bool.true_eq_false, Bool.false_eq_true, Option.bind_some, true_and, and_true, List.replicate, startR, List.cons_append, List.nil_append, Nat.sub_self, reduceIte, ↓reduceIte, isNon, LIM_eq, and_self, List.map_append, List.length_map, Int.toNat_natCast, Nat.zero_le, Nat.reduceLeDiff, Int.reduceNeg, Int.reduceLE, Int.reduceLT, Int.zero_add, ran1_int, ran2_int, noEx, eq_self, dI, dP, dPs]⟩
      · exact ⟨false, by simp (disch := omega) only [h1, h2, eV_ap, eC_ap, eBin_ap, eNeg_ap, tVal_ap, eIsN_ap, eNotN_ap, eChain_ap, tAndF_ap, tOrF_ap, tNotF_ap, tTru_ap, eAnd_ap, eOr_ap, eNot_ap, eIf_ap, aNil_ap, aCons_ap, eTup_ap, eLst_ap, oNone_ap, oSome_ap, eSl_ap, eCall_ap, iLst_ap, iTpl_ap, iRan2_apN, eOf_ap, oLst_ap, oCat_ap, oRep_ap, oSl_ap, oList_ap, oComp_ap, tYesF_ap, sNil_ap, sSeq_th, sBrk_ap, sCnt_ap, sExpr_ap, sRet_ap, sRetN_ap, sIf_ap, sSet_ap, sSetO_ap, sAsg_ap, sPar_ap, sPar3_ap, sAug_ap, sApp_ap, sExt_ap, sSetIx_ap, sFrz_ap, eIxO_ap, eLenO_ap, eIxA_ap, eLenA_ap, vOf_ap, vCons_ap, vOwn_ap, vOwn2_ap, sTup_ap, iSeq_ap, sRaise_ap, sTry_ap, eExF_ap, tIfF_ap, eRev_ap, eRevA_ap, eRevF_ap, th_nx, th_rt, th_bk, th_ct, th_exc, bind_ok, bind_exc, go_ok, go_exc, opAdd_int, opSub_int, opMul_a, opMul_b, opDiv_pos, opDiv_wide, opMod_pos, opI_int, opEq_int, opNe_int, opEq_bool, opNe_bool, atI_0, atI_1, atI_2, atI_3, opIx_list, opIx_tuple, iRan1_ap, bLen_list, bLen_tuple, bInt_int, bAbs_int, bName, bNil, bCons, bTup, List.getElem?_cons_zero, List.getElem?_cons_succ, List.set_cons_zero, List.set_cons_succ, List.length_cons, List.length_nil, noTok, if_true, if_false, decide_true, decide_false, Bool.not_true, Bool.not_false, setAll, List.map_cons, List.map_nil, truD, Bool.true_eq_false, Bool.false_eq_true, Option.bind_some, true_and, and_true, List.replicate, startR, List.cons_append, List.nil_append, Nat.sub_self, reduceIte, ↓reduceIte, isNon, LIM_eq, and_self, List.map_append, List.length_map, Int.toNat_natCast, Nat.zero_le, Nat.reduceLeDiff, Int.reduceNeg, Int.reduceLE, Int.reduceLT, Int.zero_add, ran1_int, ran2_int, noEx, eq_self, dI, dP, dPs]⟩
  obtain ⟨c, hc⟩ := hc
  cases c with
  | false =>
    refine ⟨x4, x10, x22, x23, x24, ?_⟩
    show ((tOrF (tVal (eBin opLt (eV 2) (eC (.int 12)))) (tVal (eBin opLt (eV 20) (eC (.int 3))))) _ g).go _ _ = _
    rw [hc, go_ok]
    rfl
  | true =>
    obtain ⟨y4, y10, y23, y24, h⟩ := t48 (x0 := x0) (x4 := x4) (x5 := x5) (x6 := x6) (x7 := x7) (x8 := x8) (x9 := x9) (x10 := x10) (x11 := x11) (x12 := x12) (x13 := x13) (x14 := x14) (x15 := x15) (x16 := x16) (x17 := x17) (x18 := x18) (x19 := x19) (x21 := .d (.int V)) (x23 := x23) (x24 := x24) (x25 := x25) (x26 := x26) (x27 := x27) (g := g) (Q := Q) hp hP hT ht
    refine ⟨y4, y10, .d (.list (wid p (Nn p t))), y23, y24, ?_⟩
    show ((tOrF (tVal (eBin opLt (eV 2) (eC (.int 12)))) (tVal (eBin opLt (eV 20) (eC (.int 3))))) _ g).go _ _ = _
    rw [hc, go_ok, if_pos rfl]
    exact seq_nx (t47 hp hP) (seq_nx h (t54 hp hP hT ht hV hv))
end
theorem t56 (ρ : RS) (hρ : ρ.length = 28) (g : G) : S_law_56 ρ g = .rt (.bool true) g := by
  have wC : ([2, 9, 67, 1, 3, 61] : List Int).all (fun x => okD (m__law_word [.int x] (0, [])) (if x = 3 ∨ x = 61 then .str "" else .str "prime")) = true := by decide +kernel
  have hC : C_law_9 ρ g = .ok [.str "prime", .str "prime", .str "prime", .str "prime", .str "", .str ""] g := by
    have := comp_mapA PyData.int (vs := [25]) (fi := iSeq (eTup (aCons (eC (.int 2)) (aCons (eC (.int 9)) (aCons (eC (.int 67)) (aCons (eC (.int 1)) (aCons (eC (.int 3)) (aCons (eC (.int 61)) aNil)))))))) (b := bName 25) (fe := eCall m__law_word (aCons (eV 25) aNil)) (ρ := ρ) (g := g) (xs := [2, 9, 67, 1, 3, 61]) (fun x => if x = 3 ∨ x = 61 then .str "" else .str "prime") (by simp (disch := omega) only [eV_ap, eC_ap, eBin_ap, eNeg_ap, tVal_ap, eIsN_ap, eNotN_ap, eChain_ap, tAndF_ap, tOrF_ap, tNotF_ap, tTru_ap, eAnd_ap, eOr_ap, eNot_ap, eIf_ap, aNil_ap, aCons_ap, eTup_ap, eLst_ap, oNone_ap, oSome_ap, eSl_ap, eCall_ap, iLst_ap, iTpl_ap, iRan2_apN, eOf_ap, oLst_ap, oCat_ap, oRep_ap, oSl_ap, oList_ap, oComp_ap, tYesF_ap, sNil_ap, sSeq_th, sBrk_ap, sCnt_ap, sExpr_ap, sRet_ap, sRetN_ap, sIf_ap, sSet_ap, sSetO_ap, sAsg_ap, sPar_ap, sPar3_ap, sAug_ap, sApp_ap, sExt_ap, sSetIx_ap, sFrz_ap, eIxO_ap, eLenO_ap, eIxA_ap, eLenA_ap, vOf_ap, vCons_ap, vOwn_ap, vOwn2_ap, sTup_ap, iSeq_ap, sRaise_ap, sTry_ap, eExF_ap, tIfF_ap, eRev_ap, eRevA_ap, eRevF_ap, th_nx, th_rt, th_bk, th_ct, th_exc, bind_ok, bind_exc, go_ok, go_exc, opAdd_int, opSub_int, opMul_a, opMul_b, opDiv_pos, opDiv_wide, opMod_pos, opI_int, opEq_int, opNe_int, opEq_bool, opNe_bool, atI_0, atI_1, atI_2, atI_3, opIx_list, opIx_tuple, iRan1_ap, bLen_list, bLen_tuple, bInt_int, bAbs_int, bName, bNil, bCons, bTup, List.getElem?_cons_zero, List.getElem?_cons_succ, List.set_cons_zero, List.set_cons_succ, List.length_cons, List.length_nil, noTok, if_true, if_false, decide_true, decide_false, Bool.not_true, Bool.not_false, setAll, List.map_cons, List.map_nil, truD, Bool.true_eq_false, Bool.false_eq_true, Option.bind_some, true_and, and_true, List.replicate, startR, List.cons_append, List.nil_append, Nat.sub_self, reduceIte, ↓reduceIte, isNon, LIM_eq, and_self, List.map_append, List.length_map, Int.toNat_natCast, Nat.zero_le, Nat.reduceLeDiff, Int.reduceNeg, Int.reduceLE, Int.reduceLT, Int.zero_add, ran1_int, ran2_int, noEx, eq_self, dI, dP, dPs]) (by decide) (fun x hx => by
      have hw : m__law_word [.int x] g = .ok (if x = 3 ∨ x = 61 then .str "" else .str "prime") g := okD_of gp__law_word (List.all_eq_true.mp wC x hx) g
      have hl : 25 < (wipeR ρ [25]).length := by
        show 25 < (ρ.set 25 .un).length
        rw [List.length_set, hρ]
        decide
      refine ⟨(wipeR ρ [25]).set 25 (.d (.int x)), rfl, ?_, ?_⟩
      · have e : (eV 25) ((wipeR ρ [25]).set 25 (.d (.int x))) g = .ok (.int x) g := by
          rw [eV_ap, List.getElem?_set_self hl]
        rw [eCall_ap, aCons_ap, e, bind_ok, aNil_ap, bind_ok, bind_ok, hw]
      · split <;> rfl)
    exact this
  have q : opEq (.list [.str "prime", .str "prime", .str "prime", .str "prime", .str "", .str ""]) (.list [.str "prime", .str "prime", .str "prime", .str "prime", .str "", .str ""]) g = .ok (.bool true) g := by
    rw [opEq_shp (by decide +kernel) (by decide +kernel), show PyData.eqv (.list [.str "prime", .str "prime", .str "prime", .str "prime", .str "", .str ""]) (.list [.str "prime", .str "prime", .str "prime", .str "prime", .str "", .str ""]) = true by decide +kernel]
  have e2 : opMul (.list [.str "prime"]) (.int 4) g = .ok (.list [.str "prime", .str "prime", .str "prime", .str "prime"]) g := rfl
  have e3 : opAdd (.list [.str "prime", .str "prime", .str "prime", .str "prime"]) (.list [.str "", .str ""]) g = .ok (.list [.str "prime", .str "prime", .str "prime", .str "prime", .str "", .str ""]) g := rfl
  simp (disch := omega) only [S_law_56, hC, q, e2, e3, eV_ap, eC_ap, eBin_ap, eNeg_ap, tVal_ap, eIsN_ap, eNotN_ap, eChain_ap, tAndF_ap, tOrF_ap, tNotF_ap, tTru_ap, eAnd_ap, eOr_ap, eNot_ap, eIf_ap, aNil_ap, aCons_ap, eTup_ap, eLst_ap, oNone_ap, oSome_ap, eSl_ap, eCall_ap, iLst_ap, iTpl_ap, iRan2_apN, eOf_ap, oLst_ap, oCat_ap, oRep_ap, oSl_ap, oList_ap, oComp_ap, tYesF_ap, sNil_ap, sSeq_th, sBrk_ap, sCnt_ap, sExpr_ap, sRet_ap, sRetN_ap, sIf_ap, sSet_ap, sSetO_ap, sAsg_ap, sPar_ap, sPar3_ap, sAug_ap, sApp_ap, sExt_ap, sSetIx_ap, sFrz_ap, eIxO_ap, eLenO_ap, eIxA_ap, eLenA_ap, vOf_ap, vCons_ap, vOwn_ap, vOwn2_ap, sTup_ap, iSeq_ap, sRaise_ap, sTry_ap, eExF_ap, tIfF_ap, eRev_ap, eRevA_ap, eRevF_ap, th_nx, th_rt, th_bk, th_ct, th_exc, bind_ok, bind_exc, go_ok, go_exc, opAdd_int, opSub_int, opMul_a, opMul_b, opDiv_pos, opDiv_wide, opMod_pos, opI_int, opEq_int, opNe_int, opEq_bool, opNe_bool, atI_0, atI_1, atI_2, atI_3, opIx_list, opIx_tuple, iRan1_ap, bLen_list, bLen_tuple, bInt_int, bAbs_int, bName, bNil, bCons, bTup, List.getElem?_cons_zero, List.getElem?_cons_succ, List.set_cons_zero, List.set_cons_succ, List.length_cons, List.length_nil, noTok, if_true, if_false, decide_true, decide_false, Bool.not_true, Bool.not_false, setAll, List.map_cons, List.map_nil, truD, Bool.true_eq_false, Bool.false_eq_true, Option.bind_some, true_and, and_true, List.replicate, startR, List.cons_append, List.nil_append, Nat.sub_self, reduceIte, ↓reduceIte, isNon, LIM_eq, and_self, List.map_append, List.length_map, Int.toNat_natCast, Nat.zero_le, Nat.reduceLeDiff, Int.reduceNeg, Int.reduceLE, Int.reduceLT, Int.zero_add, ran1_int, ran2_int, noEx, eq_self, dI, dP, dPs]
end K19
namespace K19
open PySem
open PySem.Spec
open PyProof.Rows
open L2
open DL
theorem law_math : LawMath := by
  intro cells _
  obtain ⟨p, q, P, Q, g1, hp, hq, hP, hQ, s1⟩ := t1 (x0 := .un) (x2 := .un) (x3 := .un) (x4 := .un) (x5 := .un) (x6 := .un) (x7 := .un) (x8 := .un) (x9 := .un) (x10 := .un) (x11 := .un) (x12 := .un) (x13 := .un) (x14 := .un) (x15 := .un) (x16 := .un) (x17 := .un) (x18 := .un) (x19 := .un) (x20 := .un) (x21 := .un) (x22 := .un) (x23 := .un) (x24 := .un) (x25 := .un) (x26 := .un) (x27 := .un) (g := (0, cells))
  obtain ⟨hp3, hp19⟩ := p7_b p hp
  obtain ⟨W, g2, s2⟩ := t2 (x0 := .un) (x4 := .un) (x5 := .un) (x6 := .un) (x7 := .un) (x8 := .un) (x9 := .un) (x10 := .un) (x11 := .un) (x12 := .un) (x13 := .un) (x14 := .un) (x15 := .un) (x16 := .un) (x17 := .un) (x18 := .un) (x19 := .un) (x20 := .un) (x21 := .un) (x22 := .un) (x23 := .un) (x24 := .un) (x25 := .un) (x26 := .un) (x27 := .un) (g := g1) (Q := Q) hp hP
  obtain ⟨r, s, g3, hr, hs, s3⟩ := t3 (x0 := .un) (x4 := .un) (x5 := .d (.list (wid p W))) (x6 := .un) (x7 := .un) (x8 := .un) (x9 := .un) (x10 := .un) (x11 := .un) (x12 := .un) (x13 := .un) (x14 := .un) (x15 := .un) (x16 := .un) (x17 := .un) (x18 := .un) (x19 := .un) (x20 := .un) (x21 := .un) (x22 := .un) (x23 := .un) (x24 := .un) (x25 := .un) (x26 := .un) (x27 := .un) (g := g2) (Q := Q) hp hP
  have s4 := t4 (x0 := .un) (x4 := .un) (x8 := .un) (x9 := .un) (x10 := .un) (x11 := .un) (x12 := .un) (x13 := .un) (x14 := .un) (x15 := .un) (x16 := .un) (x17 := .un) (x18 := .un) (x19 := .un) (x20 := .un) (x21 := .un) (x22 := .un) (x23 := .un) (x24 := .un) (x25 := .un) (x26 := .un) (x27 := .un) (g := g3) (Q := Q) (W := W) (r := r) (s := s) hp hP
  have s6 := t6 (x0 := .un) (x4 := .un) (x5 := .d (.list (wid p W))) (x8 := .un) (x9 := .un) (x10 := .un) (x11 := .un) (x12 := .un) (x13 := .un) (x14 := .un) (x15 := .un) (x16 := .un) (x17 := .un) (x18 := .un) (x19 := .un) (x20 := .un) (x21 := .un) (x22 := .un) (x23 := .un) (x24 := .un) (x25 := .un) (x26 := .un) (x27 := .un) (g := g3) (Q := Q) hp hP hr hs
  obtain ⟨t, T, g4, ht, hT, s8⟩ := t8 (x0 := .un) (x4 := .un) (x5 := .d (.list (wid p W))) (x6 := .d (rowD p r)) (x7 := .d (rowD p s)) (x8 := .un) (x9 := .un) (x10 := .un) (x11 := .un) (x12 := .un) (x13 := .un) (x14 := .un) (x15 := .un) (x16 := .un) (x17 := .un) (x18 := .un) (x19 := .un) (x20 := .un) (x21 := .un) (x22 := .un) (x23 := .un) (x24 := .un) (x25 := .un) (x26 := .un) (x27 := .un) (g := g3) (Q := Q) (r := r) hp hP
  obtain ⟨y10, s9⟩ := t9 (x0 := .un) (x4 := .un) (x5 := .d (.list (wid p W))) (x7 := .d (rowD p s)) (x10 := .un) (x11 := .un) (x12 := .un) (x13 := .un) (x14 := .un) (x15 := .un) (x16 := .un) (x17 := .un) (x18 := .un) (x19 := .un) (x20 := .un) (x21 := .un) (x22 := .un) (x23 := .un) (x24 := .un) (x25 := .un) (x26 := .un) (x27 := .un) (g := g4) (Q := Q) hp hP hr hT ht
  have s11 := t11 (x0 := .un) (x4 := .un) (x5 := .d (.list (wid p W))) (x7 := .d (rowD p s)) (x10 := y10) (x11 := .un) (x12 := .un) (x13 := .un) (x14 := .un) (x15 := .un) (x16 := .un) (x17 := .un) (x18 := .un) (x19 := .un) (x20 := .un) (x21 := .un) (x22 := .un) (x23 := .un) (x24 := .un) (x25 := .un) (x26 := .un) (x27 := .un) (g := g4) (P := P) (Q := Q) hp hr hT ht
  obtain ⟨a, g5, ha0, ha1, s13⟩ := t13 (x0 := .un) (x4 := .un) (x5 := .d (.list (wid p W))) (x6 := .d (rowD p r)) (x7 := .d (rowD p s)) (x8 := .d (.int T)) (x9 := .d (rowD p (pwR p r t))) (x10 := y10) (x11 := .un) (x12 := .un) (x13 := .un) (x14 := .un) (x15 := .un) (x16 := .un) (x17 := .un) (x18 := .un) (x19 := .un) (x20 := .un) (x21 := .un) (x22 := .un) (x23 := .un) (x24 := .un) (x25 := .un) (x26 := .un) (x27 := .un) (g := g4) (P := P) (Q := Q)
  obtain ⟨A, hA⟩ : ∃ A : Nat, a % P = (A : Int) := ⟨(a % P).toNat, by have := Int.emod_nonneg a (show P ≠ 0 by omega); omega⟩
  have s14 := t14 (x0 := .un) (x4 := .un) (x5 := .d (.list (wid p W))) (x6 := .d (rowD p r)) (x7 := .d (rowD p s)) (x8 := .d (.int T)) (x9 := .d (rowD p (pwR p r t))) (x10 := y10) (x11 := .d (.int a)) (x12 := .un) (x13 := .un) (x14 := .un) (x15 := .un) (x16 := .un) (x17 := .un) (x18 := .un) (x19 := .un) (x20 := .un) (x21 := .un) (x22 := .un) (x23 := .un) (x24 := .un) (x25 := .un) (x26 := .un) (x27 := .un) (g := g5) (Q := Q) hp hP
  have s15 := t15 (x0 := .un) (x4 := .un) (x5 := .d (.list (wid p W))) (x6 := .d (rowD p r)) (x7 := .d (rowD p s)) (x8 := .d (.int T)) (x9 := .d (rowD p (pwR p r t))) (x10 := y10) (x13 := .un) (x14 := .un) (x15 := .un) (x16 := .un) (x17 := .un) (x18 := .un) (x19 := .un) (x20 := .un) (x21 := .un) (x22 := .un) (x23 := .un) (x24 := .un) (x25 := .un) (x26 := .un) (x27 := .un) (g := g5) (Q := Q) hp hP hA
  have s16 := t16 (x0 := .un) (x4 := .un) (x5 := .d (.list (wid p W))) (x6 := .d (rowD p r)) (x7 := .d (rowD p s)) (x8 := .d (.int T)) (x9 := .d (rowD p (pwR p r t))) (x10 := y10) (x13 := .un) (x14 := .un) (x15 := .un) (x16 := .un) (x17 := .un) (x18 := .un) (x19 := .un) (x20 := .un) (x21 := .un) (x22 := .un) (x23 := .un) (x24 := .un) (x25 := .un) (x26 := .un) (x27 := .un) (g := g5) (Q := Q) hp hP hA
  obtain ⟨b, B, g6, hb1, hb, hB, s18⟩ := t18 (x0 := .un) (x4 := .un) (x5 := .d (.list (wid p W))) (x6 := .d (rowD p r)) (x7 := .d (rowD p s)) (x8 := .d (.int T)) (x9 := .d (rowD p (pwR p r t))) (x10 := y10) (x11 := .d (.int a)) (x12 := .d (.list (wid p (one1 A)))) (x13 := .un) (x14 := .un) (x15 := .un) (x16 := .un) (x17 := .un) (x18 := .un) (x19 := .un) (x20 := .un) (x21 := .un) (x22 := .un) (x23 := .un) (x24 := .un) (x25 := .un) (x26 := .un) (x27 := .un) (g := g5) (Q := Q) hp hP
  have s19 := t19 (x0 := .un) (x4 := .un) (x5 := .d (.list (wid p W))) (x6 := .d (rowD p r)) (x7 := .d (rowD p s)) (x8 := .d (.int T)) (x9 := .d (rowD p (pwR p r t))) (x10 := y10) (x11 := .d (.int a)) (x12 := .d (.list (wid p (one1 A)))) (x13 := .d (.int B)) (x14 := .un) (x15 := .un) (x16 := .un) (x17 := .un) (x18 := .un) (x19 := .un) (x20 := .un) (x21 := .un) (x22 := .un) (x23 := .un) (x24 := .un) (x25 := .un) (x26 := .un) (x27 := .un) (g := g6) (Q := Q) hp hP
  obtain ⟨y4, s20⟩ := t20 (x0 := .un) (x4 := .un) (x5 := .d (.list (wid p W))) (x7 := .d (rowD p s)) (x8 := .d (.int T)) (x9 := .d (rowD p (pwR p r t))) (x10 := y10) (x11 := .d (.int a)) (x14 := .un) (x15 := .un) (x16 := .un) (x17 := .un) (x18 := .un) (x19 := .un) (x20 := .un) (x21 := .un) (x22 := .un) (x23 := .un) (x24 := .un) (x25 := .un) (x26 := .un) (x27 := .un) (g := g6) (Q := Q) (r := r) hp hP hB hb
  have s22 := t22 (x0 := .un) (x4 := y4) (x5 := .d (.list (wid p W))) (x8 := .d (.int T)) (x9 := .d (rowD p (pwR p r t))) (x10 := y10) (x11 := .d (.int a)) (x14 := .un) (x15 := .un) (x16 := .un) (x17 := .un) (x18 := .un) (x19 := .un) (x20 := .un) (x21 := .un) (x22 := .un) (x23 := .un) (x24 := .un) (x25 := .un) (x26 := .un) (x27 := .un) (g := g6) (Q := Q) hp hP hr hs hB hb1 hb
  have s24 := t24 (x0 := .un) (x4 := y4) (x5 := .d (.list (wid p W))) (x6 := .d (rowD p r)) (x7 := .d (rowD p s)) (x8 := .d (.int T)) (x9 := .d (rowD p (pwR p r t))) (x10 := y10) (x11 := .d (.int a)) (x12 := .d (.list (wid p (accM p r b (p - 1))))) (x13 := .d (.int B)) (x14 := .un) (x15 := .un) (x16 := .un) (x17 := .un) (x18 := .un) (x19 := .un) (x20 := .un) (x21 := .un) (x22 := .un) (x23 := .un) (x24 := .un) (x25 := .un) (x26 := .un) (x27 := .un) (g := g6) (Q := Q) (r := r) hp hP
  obtain ⟨z4, s25⟩ := t25 (x0 := .un) (x4 := y4) (x5 := .d (.list (wid p W))) (x7 := .d (rowD p s)) (x8 := .d (.int T)) (x9 := .d (rowD p (pwR p r t))) (x10 := y10) (x11 := .d (.int a)) (x12 := .d (.list (wid p (accM p r b (p - 1))))) (x13 := .d (.int B)) (x15 := .un) (x16 := .un) (x17 := .un) (x18 := .un) (x19 := .un) (x20 := .un) (x21 := .un) (x22 := .un) (x23 := .un) (x24 := .un) (x25 := .un) (x26 := .un) (x27 := .un) (g := g6) (Q := Q) (r := r) hp hP
  have s27 := t27 (x0 := .un) (x4 := z4) (x5 := .d (.list (wid p W))) (x7 := .d (rowD p s)) (x8 := .d (.int T)) (x9 := .d (rowD p (pwR p r t))) (x10 := y10) (x11 := .d (.int a)) (x12 := .d (.list (wid p (accM p r b (p - 1))))) (x13 := .d (.int B)) (x15 := .un) (x16 := .un) (x17 := .un) (x18 := .un) (x19 := .un) (x20 := .un) (x21 := .un) (x22 := .un) (x23 := .un) (x24 := .un) (x25 := .un) (x26 := .un) (x27 := .un) (g := g6) (Q := Q) hp hP hr
  have s29 := t29 (x0 := .un) (x4 := z4) (x5 := .d (.list (wid p W))) (x6 := .d (rowD p r)) (x7 := .d (rowD p s)) (x8 := .d (.int T)) (x9 := .d (rowD p (pwR p r t))) (x10 := y10) (x11 := .d (.int a)) (x12 := .d (.list (wid p (accM p r b (p - 1))))) (x13 := .d (.int B)) (x14 := .d (rowD p (totR p r (p - 1)))) (x15 := .un) (x16 := .un) (x17 := .un) (x18 := .un) (x19 := .un) (x20 := .un) (x21 := .un) (x22 := .un) (x23 := .un) (x24 := .un) (x25 := .un) (x26 := .un) (x27 := .un) (g := g6) (Q := Q) hp hP
  obtain ⟨w4, s30⟩ := t30 (x0 := .un) (x4 := z4) (x5 := .d (.list (wid p W))) (x6 := .d (rowD p r)) (x7 := .d (rowD p s)) (x8 := .d (.int T)) (x9 := .d (rowD p (pwR p r t))) (x10 := y10) (x12 := .d (.list (wid p (accM p r b (p - 1))))) (x13 := .d (.int B)) (x14 := .d (rowD p (totR p r (p - 1)))) (x17 := .un) (x18 := .un) (x19 := .un) (x20 := .un) (x21 := .un) (x22 := .un) (x23 := .un) (x24 := .un) (x25 := .un) (x26 := .un) (x27 := .un) (g := g6) (Q := Q) hp hP hA
  have s33 := t33 (x0 := .un) (x4 := w4) (x5 := .d (.list (wid p W))) (x6 := .d (rowD p r)) (x7 := .d (rowD p s)) (x8 := .d (.int T)) (x9 := .d (rowD p (pwR p r t))) (x10 := y10) (x12 := .d (.list (wid p (accM p r b (p - 1))))) (x13 := .d (.int B)) (x14 := .d (rowD p (totR p r (p - 1)))) (x17 := .un) (x18 := .un) (x19 := .un) (x20 := .un) (x21 := .un) (x22 := .un) (x23 := .un) (x24 := .un) (x25 := .un) (x26 := .un) (x27 := .un) (g := g6) (Q := Q) hp hP hA
  have s35 := t35 (x0 := .un) (x4 := w4) (x5 := .d (.list (wid p W))) (x6 := .d (rowD p r)) (x7 := .d (rowD p s)) (x8 := .d (.int T)) (x9 := .d (rowD p (pwR p r t))) (x10 := y10) (x11 := .d (.int a)) (x12 := .d (.list (wid p (accM p r b (p - 1))))) (x13 := .d (.int B)) (x14 := .d (rowD p (totR p r (p - 1)))) (x15 := .d (.list (wid p (accL p A p)))) (x16 := .d (.list (wid p (accQ p A p)))) (x17 := .un) (x18 := .un) (x19 := .un) (x20 := .un) (x21 := .un) (x22 := .un) (x23 := .un) (x24 := .un) (x25 := .un) (x26 := .un) (x27 := .un) (g := g6) (Q := Q) hp hP
  have s36 := t36 (x0 := .un) (x4 := w4) (x5 := .d (.list (wid p W))) (x6 := .d (rowD p r)) (x7 := .d (rowD p s)) (x8 := .d (.int T)) (x9 := .d (rowD p (pwR p r t))) (x10 := y10) (x11 := .d (.int a)) (x12 := .d (.list (wid p (accM p r b (p - 1))))) (x13 := .d (.int B)) (x14 := .d (rowD p (totR p r (p - 1)))) (x15 := .d (.list (wid p (accL p A p)))) (x16 := .d (.list (wid p (accQ p A p)))) (x17 := .d (rowD p (gs p 1))) (x18 := .un) (x19 := .un) (x20 := .un) (x21 := .un) (x22 := .un) (x23 := .un) (x24 := .un) (x25 := .un) (x26 := .un) (x27 := .un) (g := g6) (Q := Q) hP
  have s37 := t37 (x0 := .un) (x4 := w4) (x5 := .d (.list (wid p W))) (x6 := .d (rowD p r)) (x7 := .d (rowD p s)) (x8 := .d (.int T)) (x9 := .d (rowD p (pwR p r t))) (x10 := y10) (x11 := .d (.int a)) (x12 := .d (.list (wid p (accM p r b (p - 1))))) (x13 := .d (.int B)) (x14 := .d (rowD p (totR p r (p - 1)))) (x15 := .d (.list (wid p (accL p A p)))) (x16 := .d (.list (wid p (accQ p A p)))) (x19 := .un) (x20 := .un) (x21 := .un) (x22 := .un) (x23 := .un) (x24 := .un) (x25 := .un) (x26 := .un) (x27 := .un) (g := g6) (Q := Q) hp hP
  have s39 := t39 (x0 := .un) (x4 := w4) (x5 := .d (.list (wid p W))) (x7 := .d (rowD p s)) (x8 := .d (.int T)) (x9 := .d (rowD p (pwR p r t))) (x10 := y10) (x11 := .d (.int a)) (x12 := .d (.list (wid p (accM p r b (p - 1))))) (x14 := .d (rowD p (totR p r (p - 1)))) (x15 := .d (.list (wid p (accL p A p)))) (x16 := .d (.list (wid p (accQ p A p)))) (x18 := .d (.int (star p))) (x19 := .un) (x20 := .un) (x21 := .un) (x22 := .un) (x23 := .un) (x24 := .un) (x25 := .un) (x26 := .un) (x27 := .un) (g := g6) (r := r) hp hq hP hQ hB hb1 hb
  obtain ⟨y19, s41⟩ := t41 (x0 := .un) (x4 := w4) (x5 := .d (.list (wid p W))) (x6 := .d (rowD p r)) (x7 := .d (rowD p s)) (x8 := .d (.int T)) (x9 := .d (rowD p (pwR p r t))) (x10 := y10) (x11 := .d (.int a)) (x12 := .d (.list (wid p (accM p r b (p - 1))))) (x13 := .d (.int B)) (x14 := .d (rowD p (totR p r (p - 1)))) (x15 := .d (.list (wid p (accL p A p)))) (x16 := .d (.list (wid p (accQ p A p)))) (x17 := .d (rowD p (gs p 1))) (x19 := .un) (x20 := .un) (x21 := .un) (x22 := .un) (x23 := .un) (x24 := .un) (x25 := .un) (x26 := .un) (x27 := .un) (g := g6) hp hq hP hQ
  obtain ⟨t2, v, T2, V, g7, h1, h2, h3, hT2, hV, s45⟩ := t45 (x0 := .un) (x4 := w4) (x5 := .d (.list (wid p W))) (x6 := .d (rowD p r)) (x7 := .d (rowD p s)) (x8 := .d (.int T)) (x9 := .d (rowD p (pwR p r t))) (x10 := y10) (x11 := .d (.int a)) (x12 := .d (.list (wid p (accM p r b (p - 1))))) (x13 := .d (.int B)) (x14 := .d (rowD p (totR p r (p - 1)))) (x15 := .d (.list (wid p (accL p A p)))) (x16 := .d (.list (wid p (accQ p A p)))) (x17 := .d (rowD p (gs p 1))) (x18 := .d (.int (star p))) (x19 := y19) (x20 := .un) (x21 := .un) (x22 := .un) (x23 := .un) (x24 := .un) (x25 := .un) (x26 := .un) (x27 := .un) (g := g6) (P := P) (Q := Q)
  obtain ⟨u4, u10, u22, u23, u24, s46⟩ := t46 (x0 := .un) (x4 := w4) (x5 := .d (.list (wid p W))) (x6 := .d (rowD p r)) (x7 := .d (rowD p s)) (x8 := .d (.int T)) (x9 := .d (rowD p (pwR p r t))) (x10 := y10) (x11 := .d (.int a)) (x12 := .d (.list (wid p (accM p r b (p - 1))))) (x13 := .d (.int B)) (x14 := .d (rowD p (totR p r (p - 1)))) (x15 := .d (.list (wid p (accL p A p)))) (x16 := .d (.list (wid p (accQ p A p)))) (x17 := .d (rowD p (gs p 1))) (x18 := .d (.int (star p))) (x19 := y19) (x22 := .un) (x23 := .un) (x24 := .un) (x25 := .un) (x26 := .un) (x27 := .un) (g := g7) (Q := Q) hp hP hT2 h2 hV h3
  exact ⟨g7, seq_nx s1 (seq_nx s2 (seq_nx s3 (seq_nx s4 (seq_nx s6 (seq_nx s8 (seq_nx s9 (seq_nx s11 (seq_nx s13 (seq_nx s14 (seq_nx s15 (frz_own rfl (seq_nx s16 (seq_nx s18 (seq_nx s19 (seq_nx s20 (frz_own rfl (seq_nx s22 (seq_nx s24 (seq_nx s25 (seq_nx s27 (seq_nx s29 (seq_nx s30 (frz_own rfl (frz_own rfl (seq_nx s33 (seq_nx s35 (seq_nx s36 (seq_nx s37 (seq_nx s39 (seq_nx s41 (seq_nx s45 (seq_nx s46 (t56 _ rfl g7)))))))))))))))))))))))))))))))))⟩
end K19
namespace K19
open PySem
open PySem.Spec
open PyProof.Rows
open L2
open DL
theorem all_mk (hmath : LawMath) {P : Program} {w : World} {K : PySem.W.Frag} {h : Heap} {mg : Str → Option Value} {fa : Addr} (X : K.In h) (G : h.Ns mainGlobals mg) (hfa : mg "law" = some (.ref fa))
    {f0 : Addr} {ocf0 kVf0 dcf0 pmf0 cdf0 ctf0 : Value} {odf0 anf0 : Option Addr} {slf0 : Array (Option Value)}
    {f1 : Addr} {ocf1 kVf1 dcf1 pmf1 cdf1 ctf1 : Value} {odf1 anf1 : Option Addr} {slf1 : Array (Option Value)}
    {f2 : Addr} {ocf2 kVf2 dcf2 pmf2 cdf2 ctf2 : Value} {odf2 anf2 : Option Addr} {slf2 : Array (Option Value)}
    {f3 : Addr} {ocf3 kVf3 dcf3 pmf3 cdf3 ctf3 : Value} {odf3 anf3 : Option Addr} {slf3 : Array (Option Value)}
    {f4 : Addr} {ocf4 kVf4 dcf4 pmf4 cdf4 ctf4 : Value} {odf4 anf4 : Option Addr} {slf4 : Array (Option Value)}
    {f5 : Addr} {ocf5 kVf5 dcf5 pmf5 cdf5 ctf5 : Value} {odf5 anf5 : Option Addr} {slf5 : Array (Option Value)}
    {f6 : Addr} {ocf6 kVf6 dcf6 pmf6 cdf6 ctf6 : Value} {odf6 anf6 : Option Addr} {slf6 : Array (Option Value)}
    {f7 : Addr} {ocf7 kVf7 dcf7 pmf7 cdf7 ctf7 : Value} {odf7 anf7 : Option Addr} {slf7 : Array (Option Value)}
    {f8 : Addr} {ocf8 kVf8 dcf8 pmf8 cdf8 ctf8 : Value} {odf8 anf8 : Option Addr} {slf8 : Array (Option Value)}
    {f9 : Addr} {ocf9 kVf9 dcf9 pmf9 cdf9 ctf9 : Value} {odf9 anf9 : Option Addr} {slf9 : Array (Option Value)}
    {f10 : Addr} {ocf10 kVf10 dcf10 pmf10 cdf10 ctf10 : Value} {odf10 anf10 : Option Addr} {slf10 : Array (Option Value)}
    {f11 : Addr} {ocf11 kVf11 dcf11 pmf11 cdf11 ctf11 : Value} {odf11 anf11 : Option Addr} {slf11 : Array (Option Value)}
    {f12 : Addr} {ocf12 kVf12 dcf12 pmf12 cdf12 ctf12 : Value} {odf12 anf12 : Option Addr} {slf12 : Array (Option Value)}
    {f13 : Addr} {ocf13 kVf13 dcf13 pmf13 cdf13 ctf13 : Value} {odf13 anf13 : Option Addr} {slf13 : Array (Option Value)}
    {f14 : Addr} {ocf14 kVf14 dcf14 pmf14 cdf14 ctf14 : Value} {odf14 anf14 : Option Addr} {slf14 : Array (Option Value)}
    {f15 : Addr} {ocf15 kVf15 dcf15 pmf15 cdf15 ctf15 : Value} {odf15 anf15 : Option Addr} {slf15 : Array (Option Value)}
    {f16 : Addr} {ocf16 kVf16 dcf16 pmf16 cdf16 ctf16 : Value} {odf16 anf16 : Option Addr} {slf16 : Array (Option Value)}
    {f17 : Addr} {ocf17 kVf17 dcf17 pmf17 cdf17 ctf17 : Value} {odf17 anf17 : Option Addr} {slf17 : Array (Option Value)}
    {f18 : Addr} {ocf18 kVf18 dcf18 pmf18 cdf18 ctf18 : Value} {odf18 anf18 : Option Addr} {slf18 : Array (Option Value)}
    {f19 : Addr} {ocf19 kVf19 dcf19 pmf19 cdf19 ctf19 : Value} {odf19 anf19 : Option Addr} {slf19 : Array (Option Value)}
    {f20 : Addr} {ocf20 kVf20 dcf20 pmf20 cdf20 ctf20 : Value} {odf20 anf20 : Option Addr} {slf20 : Array (Option Value)}
    {f21 : Addr} {ocf21 kVf21 dcf21 pmf21 cdf21 ctf21 : Value} {odf21 anf21 : Option Addr} {slf21 : Array (Option Value)}
    {f22 : Addr} {ocf22 kVf22 dcf22 pmf22 cdf22 ctf22 : Value} {odf22 anf22 : Option Addr} {slf22 : Array (Option Value)}
    {f23 : Addr} {ocf23 kVf23 dcf23 pmf23 cdf23 ctf23 : Value} {odf23 anf23 : Option Addr} {slf23 : Array (Option Value)}
    {f24 : Addr} {ocf24 kVf24 dcf24 pmf24 cdf24 ctf24 : Value} {odf24 anf24 : Option Addr} {slf24 : Array (Option Value)}
    {f25 : Addr} {ocf25 kVf25 dcf25 pmf25 cdf25 ctf25 : Value} {odf25 anf25 : Option Addr} {slf25 : Array (Option Value)}
    {f26 : Addr} {ocf26 kVf26 dcf26 pmf26 cdf26 ctf26 : Value} {odf26 anf26 : Option Addr} {slf26 : Array (Option Value)}
    {f27 : Addr} {ocf27 kVf27 dcf27 pmf27 cdf27 ctf27 : Value} {odf27 anf27 : Option Addr} {slf27 : Array (Option Value)}
    {f28 : Addr} {ocf28 kVf28 dcf28 pmf28 cdf28 ctf28 : Value} {odf28 anf28 : Option Addr} {slf28 : Array (Option Value)}
    {tk_MOST_NUMBER : Tok}
    {CGreat fiCGreat ccCGreat cdaCGreat : Addr} {nmCGreat qCGreat : Str} {NCGreat : Addr} {bsCGreat bmCGreat : List Value} {snCGreat : List Str} {subCGreat : List Value} {abCGreat : Bool} {colCGreat : Option Bool} {ddCGreat : Option Addr} {m0CGreat m1CGreat m2CGreat m3CGreat m5CGreat : Option Value}
    {ocxCGreat kVxCGreat docxCGreat pmxCGreat ctxCGreat : Value} {odxCGreat anxCGreat : Option Addr} {oslxCGreat : Array (Option Value)} {cclCGreat : Value} {cddCGreat : Option Addr} {vsCGreat : Array Value} {ccsCGreat : Array (Option Value)} {fileCGreat : Str} {tfCGreat : Tok} {clCGreat : Value} {cldCGreat : Option Addr} {cslCGreat : Array (Option Value)} {cdCGreat : ClassData}
    {CMisstep fiCMisstep ccCMisstep cdaCMisstep : Addr} {nmCMisstep qCMisstep : Str} {NCMisstep : Addr} {bsCMisstep bmCMisstep : List Value} {snCMisstep : List Str} {subCMisstep : List Value} {abCMisstep : Bool} {colCMisstep : Option Bool} {ddCMisstep : Option Addr} {m0CMisstep m1CMisstep m2CMisstep m3CMisstep m5CMisstep : Option Value}
    {ocxCMisstep kVxCMisstep docxCMisstep pmxCMisstep ctxCMisstep : Value} {odxCMisstep anxCMisstep : Option Addr} {oslxCMisstep : Array (Option Value)} {cclCMisstep : Value} {cddCMisstep : Option Addr} {vsCMisstep : Array Value} {ccsCMisstep : Array (Option Value)} {fileCMisstep : Str} {tfCMisstep : Tok} {clCMisstep : Value} {cldCMisstep : Option Addr} {cslCMisstep : Array (Option Value)} {cdCMisstep : ClassData}
    (af0 : PySem.W.nsIn K mainGlobals "factors" = some (some (.ref f0)))
    (lf0 : K.lookup f0 = some ⟨ocf0, odf0, .func (PySem.W.fnOf "factors" "factors" (defArgs s_factors) (defBody s_factors) (defScope s_factors) .none kVf0 dcf0 pmf0 anf0 cdf0 ctf0), slf0⟩)
    (cf0 : PySem.W.codeIn K cdf0 "factors" = true)
    (kf0 : PySem.W.keepIn K (.ref f0) = true)
    (af1 : PySem.W.nsIn K mainGlobals "is_prime" = some (some (.ref f1)))
    (lf1 : K.lookup f1 = some ⟨ocf1, odf1, .func (PySem.W.fnOf "is_prime" "is_prime" (defArgs s_is_prime) (defBody s_is_prime) (defScope s_is_prime) .none kVf1 dcf1 pmf1 anf1 cdf1 ctf1), slf1⟩)
    (cf1 : PySem.W.codeIn K cdf1 "is_prime" = true)
    (kf1 : PySem.W.keepIn K (.ref f1) = true)
    (af2 : PySem.W.nsIn K mainGlobals "jacobi" = some (some (.ref f2)))
    (lf2 : K.lookup f2 = some ⟨ocf2, odf2, .func (PySem.W.fnOf "jacobi" "jacobi" (defArgs s_jacobi) (defBody s_jacobi) (defScope s_jacobi) .none kVf2 dcf2 pmf2 anf2 cdf2 ctf2), slf2⟩)
    (cf2 : PySem.W.codeIn K cdf2 "jacobi" = true)
    (kf2 : PySem.W.keepIn K (.ref f2) = true)
    (af3 : PySem.W.nsIn K mainGlobals "check" = some (some (.ref f3)))
    (lf3 : K.lookup f3 = some ⟨ocf3, odf3, .func (PySem.W.fnOf "check" "check" (defArgs s_check) (defBody s_check) (defScope s_check) .none kVf3 dcf3 pmf3 anf3 cdf3 ctf3), slf3⟩)
    (cf3 : PySem.W.codeIn K cdf3 "check" = true)
    (kf3 : PySem.W.keepIn K (.ref f3) = true)
    (af4 : PySem.W.nsIn K mainGlobals "settled" = some (some (.ref f4)))
    (lf4 : K.lookup f4 = some ⟨ocf4, odf4, .func (PySem.W.fnOf "settled" "settled" (defArgs s_settled) (defBody s_settled) (defScope s_settled) .none kVf4 dcf4 pmf4 anf4 cdf4 ctf4), slf4⟩)
    (cf4 : PySem.W.codeIn K cdf4 "settled" = true)
    (kf4 : PySem.W.keepIn K (.ref f4) = true)
    (af5 : PySem.W.nsIn K mainGlobals "root_power" = some (some (.ref f5)))
    (lf5 : K.lookup f5 = some ⟨ocf5, odf5, .func (PySem.W.fnOf "root_power" "root_power" (defArgs s_root_power) (defBody s_root_power) (defScope s_root_power) .none kVf5 dcf5 pmf5 anf5 cdf5 ctf5), slf5⟩)
    (cf5 : PySem.W.codeIn K cdf5 "root_power" = true)
    (kf5 : PySem.W.keepIn K (.ref f5) = true)
    (af6 : PySem.W.nsIn K mainGlobals "whole" = some (some (.ref f6)))
    (lf6 : K.lookup f6 = some ⟨ocf6, odf6, .func (PySem.W.fnOf "whole" "whole" (defArgs s_whole) (defBody s_whole) (defScope s_whole) .none kVf6 dcf6 pmf6 anf6 cdf6 ctf6), slf6⟩)
    (cf6 : PySem.W.codeIn K cdf6 "whole" = true)
    (kf6 : PySem.W.keepIn K (.ref f6) = true)
    (af7 : PySem.W.nsIn K mainGlobals "plus" = some (some (.ref f7)))
    (lf7 : K.lookup f7 = some ⟨ocf7, odf7, .func (PySem.W.fnOf "plus" "plus" (defArgs s_plus) (defBody s_plus) (defScope s_plus) .none kVf7 dcf7 pmf7 anf7 cdf7 ctf7), slf7⟩)
    (cf7 : PySem.W.codeIn K cdf7 "plus" = true)
    (kf7 : PySem.W.keepIn K (.ref f7) = true)
    (af8 : PySem.W.nsIn K mainGlobals "times" = some (some (.ref f8)))
    (lf8 : K.lookup f8 = some ⟨ocf8, odf8, .func (PySem.W.fnOf "times" "times" (defArgs s_times) (defBody s_times) (defScope s_times) .none kVf8 dcf8 pmf8 anf8 cdf8 ctf8), slf8⟩)
    (cf8 : PySem.W.codeIn K cdf8 "times" = true)
    (kf8 : PySem.W.keepIn K (.ref f8) = true)
    (af9 : PySem.W.nsIn K mainGlobals "power" = some (some (.ref f9)))
    (lf9 : K.lookup f9 = some ⟨ocf9, odf9, .func (PySem.W.fnOf "power" "power" (defArgs s_power) (defBody s_power) (defScope s_power) .none kVf9 dcf9 pmf9 anf9 cdf9 ctf9), slf9⟩)
    (cf9 : PySem.W.codeIn K cdf9 "power" = true)
    (kf9 : PySem.W.keepIn K (.ref f9) = true)
    (af10 : PySem.W.nsIn K mainGlobals "moved" = some (some (.ref f10)))
    (lf10 : K.lookup f10 = some ⟨ocf10, odf10, .func (PySem.W.fnOf "moved" "moved" (defArgs s_moved) (defBody s_moved) (defScope s_moved) .none kVf10 dcf10 pmf10 anf10 cdf10 ctf10), slf10⟩)
    (cf10 : PySem.W.codeIn K cdf10 "moved" = true)
    (kf10 : PySem.W.keepIn K (.ref f10) = true)
    (af11 : PySem.W.nsIn K mainGlobals "sum_of_signs" = some (some (.ref f11)))
    (lf11 : K.lookup f11 = some ⟨ocf11, odf11, .func (PySem.W.fnOf "sum_of_signs" "sum_of_signs" (defArgs s_sum_of_signs) (defBody s_sum_of_signs) (defScope s_sum_of_signs) .none kVf11 dcf11 pmf11 anf11 cdf11 ctf11), slf11⟩)
    (cf11 : PySem.W.codeIn K cdf11 "sum_of_signs" = true)
    (kf11 : PySem.W.keepIn K (.ref f11) = true)
    (af12 : PySem.W.nsIn K mainGlobals "sum_of_squares" = some (some (.ref f12)))
    (lf12 : K.lookup f12 = some ⟨ocf12, odf12, .func (PySem.W.fnOf "sum_of_squares" "sum_of_squares" (defArgs s_sum_of_squares) (defBody s_sum_of_squares) (defScope s_sum_of_squares) .none kVf12 dcf12 pmf12 anf12 cdf12 ctf12), slf12⟩)
    (cf12 : PySem.W.codeIn K cdf12 "sum_of_squares" = true)
    (kf12 : PySem.W.keepIn K (.ref f12) = true)
    (af13 : PySem.W.nsIn K mainGlobals "starred" = some (some (.ref f13)))
    (lf13 : K.lookup f13 = some ⟨ocf13, odf13, .func (PySem.W.fnOf "starred" "starred" (defArgs s_starred) (defBody s_starred) (defScope s_starred) .none kVf13 dcf13 pmf13 anf13 cdf13 ctf13), slf13⟩)
    (cf13 : PySem.W.codeIn K cdf13 "starred" = true)
    (kf13 : PySem.W.keepIn K (.ref f13) = true)
    (af14 : PySem.W.nsIn K mainGlobals "trace" = some (some (.ref f14)))
    (lf14 : K.lookup f14 = some ⟨ocf14, odf14, .func (PySem.W.fnOf "trace" "trace" (defArgs s_trace) (defBody s_trace) (defScope s_trace) .none kVf14 dcf14 pmf14 anf14 cdf14 ctf14), slf14⟩)
    (cf14 : PySem.W.codeIn K cdf14 "trace" = true)
    (kf14 : PySem.W.keepIn K (.ref f14) = true)
    (af15 : PySem.W.nsIn K mainGlobals "is_whole_row" = some (some (.ref f15)))
    (lf15 : K.lookup f15 = some ⟨ocf15, odf15, .func (PySem.W.fnOf "is_whole_row" "is_whole_row" (defArgs s_is_whole_row) (defBody s_is_whole_row) (defScope s_is_whole_row) .none kVf15 dcf15 pmf15 anf15 cdf15 ctf15), slf15⟩)
    (cf15 : PySem.W.codeIn K cdf15 "is_whole_row" = true)
    (kf15 : PySem.W.keepIn K (.ref f15) = true)
    (af16 : PySem.W.nsIn K mainGlobals "rest_by" = some (some (.ref f16)))
    (lf16 : K.lookup f16 = some ⟨ocf16, odf16, .func (PySem.W.fnOf "rest_by" "rest_by" (defArgs s_rest_by) (defBody s_rest_by) (defScope s_rest_by) .none kVf16 dcf16 pmf16 anf16 cdf16 ctf16), slf16⟩)
    (cf16 : PySem.W.codeIn K cdf16 "rest_by" = true)
    (kf16 : PySem.W.keepIn K (.ref f16) = true)
    (af17 : PySem.W.nsIn K mainGlobals "many_sums" = some (some (.ref f17)))
    (lf17 : K.lookup f17 = some ⟨ocf17, odf17, .func (PySem.W.fnOf "many_sums" "many_sums" (defArgs s_many_sums) (defBody s_many_sums) (defScope s_many_sums) .none kVf17 dcf17 pmf17 anf17 cdf17 ctf17), slf17⟩)
    (cf17 : PySem.W.codeIn K cdf17 "many_sums" = true)
    (kf17 : PySem.W.keepIn K (.ref f17) = true)
    (af18 : PySem.W.nsIn K mainGlobals "power_of" = some (some (.ref f18)))
    (lf18 : K.lookup f18 = some ⟨ocf18, odf18, .func (PySem.W.fnOf "power_of" "power_of" (defArgs s_power_of) (defBody s_power_of) (defScope s_power_of) .none kVf18 dcf18 pmf18 anf18 cdf18 ctf18), slf18⟩)
    (cf18 : PySem.W.codeIn K cdf18 "power_of" = true)
    (kf18 : PySem.W.keepIn K (.ref f18) = true)
    (af19 : PySem.W.nsIn K mainGlobals "turned_sign" = some (some (.ref f19)))
    (lf19 : K.lookup f19 = some ⟨ocf19, odf19, .func (PySem.W.fnOf "turned_sign" "turned_sign" (defArgs s_turned_sign) (defBody s_turned_sign) (defScope s_turned_sign) .none kVf19 dcf19 pmf19 anf19 cdf19 ctf19), slf19⟩)
    (cf19 : PySem.W.codeIn K cdf19 "turned_sign" = true)
    (kf19 : PySem.W.keepIn K (.ref f19) = true)
    (af20 : PySem.W.nsIn K mainGlobals "_law_state" = some (some (.ref f20)))
    (lf20 : K.lookup f20 = some ⟨ocf20, odf20, .func (PySem.W.fnOf "_law_state" "_law_state" (defArgs s__law_state) (defBody s__law_state) (defScope s__law_state) .none kVf20 dcf20 pmf20 anf20 cdf20 ctf20), slf20⟩)
    (cf20 : PySem.W.codeIn K cdf20 "_law_state" = true)
    (kf20 : PySem.W.keepIn K (.ref f20) = true)
    (af21 : PySem.W.nsIn K mainGlobals "_law_take" = some (some (.ref f21)))
    (lf21 : K.lookup f21 = some ⟨ocf21, odf21, .func (PySem.W.fnOf "_law_take" "_law_take" (defArgs s__law_take) (defBody s__law_take) (defScope s__law_take) .none kVf21 dcf21 pmf21 anf21 cdf21 ctf21), slf21⟩)
    (cf21 : PySem.W.codeIn K cdf21 "_law_take" = true)
    (kf21 : PySem.W.keepIn K (.ref f21) = true)
    (af22 : PySem.W.nsIn K mainGlobals "_law_pick" = some (some (.ref f22)))
    (lf22 : K.lookup f22 = some ⟨ocf22, odf22, .func (PySem.W.fnOf "_law_pick" "_law_pick" (defArgs s__law_pick) (defBody s__law_pick) (defScope s__law_pick) .none kVf22 dcf22 pmf22 anf22 cdf22 ctf22), slf22⟩)
    (cf22 : PySem.W.codeIn K cdf22 "_law_pick" = true)
    (kf22 : PySem.W.keepIn K (.ref f22) = true)
    (af23 : PySem.W.nsIn K mainGlobals "_law_factors" = some (some (.ref f23)))
    (lf23 : K.lookup f23 = some ⟨ocf23, odf23, .func (PySem.W.fnOf "_law_factors" "_law_factors" (defArgs s__law_factors) (defBody s__law_factors) (defScope s__law_factors) .none kVf23 dcf23 pmf23 anf23 cdf23 ctf23), slf23⟩)
    (cf23 : PySem.W.codeIn K cdf23 "_law_factors" = true)
    (kf23 : PySem.W.keepIn K (.ref f23) = true)
    (af24 : PySem.W.nsIn K mainGlobals "_law_jacobi" = some (some (.ref f24)))
    (lf24 : K.lookup f24 = some ⟨ocf24, odf24, .func (PySem.W.fnOf "_law_jacobi" "_law_jacobi" (defArgs s__law_jacobi) (defBody s__law_jacobi) (defScope s__law_jacobi) .none kVf24 dcf24 pmf24 anf24 cdf24 ctf24), slf24⟩)
    (cf24 : PySem.W.codeIn K cdf24 "_law_jacobi" = true)
    (kf24 : PySem.W.keepIn K (.ref f24) = true)
    (af25 : PySem.W.nsIn K mainGlobals "_law_settled" = some (some (.ref f25)))
    (lf25 : K.lookup f25 = some ⟨ocf25, odf25, .func (PySem.W.fnOf "_law_settled" "_law_settled" (defArgs s__law_settled) (defBody s__law_settled) (defScope s__law_settled) .none kVf25 dcf25 pmf25 anf25 cdf25 ctf25), slf25⟩)
    (cf25 : PySem.W.codeIn K cdf25 "_law_settled" = true)
    (kf25 : PySem.W.keepIn K (.ref f25) = true)
    (af26 : PySem.W.nsIn K mainGlobals "_law_times" = some (some (.ref f26)))
    (lf26 : K.lookup f26 = some ⟨ocf26, odf26, .func (PySem.W.fnOf "_law_times" "_law_times" (defArgs s__law_times) (defBody s__law_times) (defScope s__law_times) .none kVf26 dcf26 pmf26 anf26 cdf26 ctf26), slf26⟩)
    (cf26 : PySem.W.codeIn K cdf26 "_law_times" = true)
    (kf26 : PySem.W.keepIn K (.ref f26) = true)
    (af27 : PySem.W.nsIn K mainGlobals "_law_word" = some (some (.ref f27)))
    (lf27 : K.lookup f27 = some ⟨ocf27, odf27, .func (PySem.W.fnOf "_law_word" "_law_word" (defArgs s__law_word) (defBody s__law_word) (defScope s__law_word) .none kVf27 dcf27 pmf27 anf27 cdf27 ctf27), slf27⟩)
    (cf27 : PySem.W.codeIn K cdf27 "_law_word" = true)
    (kf27 : PySem.W.keepIn K (.ref f27) = true)
    (af28 : PySem.W.nsIn K mainGlobals "law" = some (some (.ref f28)))
    (lf28 : K.lookup f28 = some ⟨ocf28, odf28, .func (PySem.W.fnOf "law" "law" (defArgs s_law) (defBody s_law) (defScope s_law) .none kVf28 dcf28 pmf28 anf28 cdf28 ctf28), slf28⟩)
    (cf28 : PySem.W.codeIn K cdf28 "law" = true)
    (kf28 : PySem.W.keepIn K (.ref f28) = true)
    (z_abs : PySem.W.nsIn K mainGlobals "abs" = some none)
    (z_all : PySem.W.nsIn K mainGlobals "all" = some none)
    (z_int : PySem.W.nsIn K mainGlobals "int" = some none)
    (z_len : PySem.W.nsIn K mainGlobals "len" = some none)
    (z_list : PySem.W.nsIn K mainGlobals "list" = some none)
    (z_max : PySem.W.nsIn K mainGlobals "max" = some none)
    (z_range : PySem.W.nsIn K mainGlobals "range" = some none)
    (z_sum : PySem.W.nsIn K mainGlobals "sum" = some none)
    (z_super : PySem.W.nsIn K mainGlobals "super" = some none)
    (z_tuple : PySem.W.nsIn K mainGlobals "tuple" = some none)
    (g_MOST_NUMBER : PySem.W.nsIn K mainGlobals "MOST_NUMBER" = some (some (.int 1000000000000 tk_MOST_NUMBER)))
    (noany : PySem.W.nsIn K PySem.cStatics "thirdparty.any" = some none)
    (aCCGreat : PySem.W.nsIn K mainGlobals "Great" = some (some (.ref CGreat)))
    (xLCGreat : K.lookup CGreat = some (excClassObj nmCGreat qCGreat CGreat NCGreat bsCGreat bmCGreat true snCGreat subCGreat abCGreat colCGreat ddCGreat m0CGreat m1CGreat m2CGreat m3CGreat m5CGreat "ValueError.__new__"))
    (hbmCGreat : PySem.HandSPX.refsVE bmCGreat = true)
    (saCGreat : PySem.W.findIn K (.ref CGreat) "__setattr__" = some (some (.builtin "object.__setattr__")))
    (exCCGreat : PySem.W.subIn K (.ref CGreat) (.type "BaseException") = some true)
    (tyCCGreat : PySem.W.typeIn K (.ref CGreat) = some (.type "type"))
    (kCCGreat : PySem.W.keepIn K (.ref CGreat) = true)
    (iniCGreat : PySem.W.findIn K (.ref CGreat) "__init__" = some (some (.ref fiCGreat)))
    (tyfCGreat : PySem.W.typeIn K (.ref fiCGreat) = some (.type "function"))
    (lfCGreat : K.lookup fiCGreat = some ⟨ocxCGreat, odxCGreat, .func (PySem.W.ksFn "__init__" "Great.__init__" (defArgs si_Great) (defBody si_Great) (defScope si_Great) .none kVxCGreat docxCGreat pmxCGreat anxCGreat (.ref cdaCGreat) ctxCGreat ccCGreat), oslxCGreat⟩)
    (cfCGreat : PySem.W.codeIn K (.ref cdaCGreat) "Great.__init__" = true)
    (lcCGreat : K.lookup cdaCGreat = some ⟨cclCGreat, cddCGreat, .fields vsCGreat, ccsCGreat⟩)
    (hvCGreat : vsCGreat[2]? = some (.str fileCGreat tfCGreat))
    (hfileCGreat : ((P.main.file : Str) == fileCGreat) = true)
    (lcellCGreat : K.lookup ccCGreat = some ⟨clCGreat, cldCGreat, .cell (some (.ref CGreat)), cslCGreat⟩)
    (hclsCGreat : PySem.W.clsIn K CGreat = some cdCGreat)
    (hmroCGreat : PySem.W.mroIn K CGreat (.ref CGreat) = some true)
    (supCGreat : PySem.W.ks_superIn K CGreat CGreat "__init__" = some (some (.builtin "ValueError.__init__")))
    (subVCGreat : PySem.W.subIn K (.ref CGreat) (.type "ValueError") = some true)
    (topCGreat : (P.main.scope.names.lookup ("super" : Str)).isSome = false)
    (finCGreat : PySem.W.findIn K (.ref CGreat) "limit" = some none)
    (gaCGreat : PySem.W.findIn K (.ref CGreat) "__getattribute__" = some (some (.builtin "BaseException.__getattribute__")))
    (ggCGreat : PySem.W.findIn K (.ref CGreat) "__getattr__" = some none)
    (hdCCGreat : PySem.W.hasDictIn K CGreat = true)
    (iclCGreat : PySem.W.isClsIn K CGreat = true)
    (aCCMisstep : PySem.W.nsIn K mainGlobals "Misstep" = some (some (.ref CMisstep)))
    (xLCMisstep : K.lookup CMisstep = some (excClassObj nmCMisstep qCMisstep CMisstep NCMisstep bsCMisstep bmCMisstep true snCMisstep subCMisstep abCMisstep colCMisstep ddCMisstep m0CMisstep m1CMisstep m2CMisstep m3CMisstep m5CMisstep "ValueError.__new__"))
    (hbmCMisstep : PySem.HandSPX.refsVE bmCMisstep = true)
    (saCMisstep : PySem.W.findIn K (.ref CMisstep) "__setattr__" = some (some (.builtin "object.__setattr__")))
    (exCCMisstep : PySem.W.subIn K (.ref CMisstep) (.type "BaseException") = some true)
    (tyCCMisstep : PySem.W.typeIn K (.ref CMisstep) = some (.type "type"))
    (kCCMisstep : PySem.W.keepIn K (.ref CMisstep) = true)
    (iniCMisstep : PySem.W.findIn K (.ref CMisstep) "__init__" = some (some (.ref fiCMisstep)))
    (tyfCMisstep : PySem.W.typeIn K (.ref fiCMisstep) = some (.type "function"))
    (lfCMisstep : K.lookup fiCMisstep = some ⟨ocxCMisstep, odxCMisstep, .func (PySem.W.ksFn "__init__" "Misstep.__init__" (defArgs si_Misstep) (defBody si_Misstep) (defScope si_Misstep) .none kVxCMisstep docxCMisstep pmxCMisstep anxCMisstep (.ref cdaCMisstep) ctxCMisstep ccCMisstep), oslxCMisstep⟩)
    (cfCMisstep : PySem.W.codeIn K (.ref cdaCMisstep) "Misstep.__init__" = true)
    (lcCMisstep : K.lookup cdaCMisstep = some ⟨cclCMisstep, cddCMisstep, .fields vsCMisstep, ccsCMisstep⟩)
    (hvCMisstep : vsCMisstep[2]? = some (.str fileCMisstep tfCMisstep))
    (hfileCMisstep : ((P.main.file : Str) == fileCMisstep) = true)
    (lcellCMisstep : K.lookup ccCMisstep = some ⟨clCMisstep, cldCMisstep, .cell (some (.ref CMisstep)), cslCMisstep⟩)
    (hclsCMisstep : PySem.W.clsIn K CMisstep = some cdCMisstep)
    (hmroCMisstep : PySem.W.mroIn K CMisstep (.ref CMisstep) = some true)
    (supCMisstep : PySem.W.ks_superIn K CMisstep CMisstep "__init__" = some (some (.builtin "ValueError.__init__")))
    (subVCMisstep : PySem.W.subIn K (.ref CMisstep) (.type "ValueError") = some true)
    (topCMisstep : (P.main.scope.names.lookup ("super" : Str)).isSome = false)
    (finCMisstep : PySem.W.findIn K (.ref CMisstep) "word" = some none)
    (gaCMisstep : PySem.W.findIn K (.ref CMisstep) "__getattribute__" = some (some (.builtin "BaseException.__getattribute__")))
    (ggCMisstep : PySem.W.findIn K (.ref CMisstep) "__getattr__" = some none)
    (hdCCMisstep : PySem.W.hasDictIn K CMisstep = true)
    (iclCMisstep : PySem.W.isClsIn K CMisstep = true)
    (sCGreat_Great : PySem.W.subIn K (.ref CGreat) (.ref CGreat) = some true)
    (sCGreat_Misstep : PySem.W.subIn K (.ref CGreat) (.ref CMisstep) = some false)
    (sCMisstep_Great : PySem.W.subIn K (.ref CMisstep) (.ref CGreat) = some false)
    (sCMisstep_Misstep : PySem.W.subIn K (.ref CMisstep) (.ref CMisstep) = some true)
    : ∃ fd : FuncData, (∀ (s : Shared) (v : Value), BindsTo s fd ⟨[v], []⟩ [("script", v)]) ∧ ∀ base : Heap, K.In base → base.Ns mainGlobals mg → FnOk P w K mg base (L2.CX P w) 8 fa fd ["script"] (spLaw K) := by
  have e := hfa.symm.trans (PySem.W.mg_of X G af28)
  cases e
  let T : Top P K mg := {
    d_factors := df_mk X G af0 lf0 cf0 kf0 fun _ _ _ _ _ _ us hl => match us, hl with | [_], _ => rfl
    d_is_prime := df_mk X G af1 lf1 cf1 kf1 fun _ _ _ _ _ _ us hl => match us, hl with | [_], _ => rfl
    d_jacobi := df_mk X G af2 lf2 cf2 kf2 fun _ _ _ _ _ _ us hl => match us, hl with | [_, _], _ => rfl
    d_check := df_mk X G af3 lf3 cf3 kf3 fun _ _ _ _ _ _ us hl => match us, hl with | [_], _ => rfl
    d_settled := df_mk X G af4 lf4 cf4 kf4 fun _ _ _ _ _ _ us hl => match us, hl with | [_], _ => rfl
    d_root_power := df_mk X G af5 lf5 cf5 kf5 fun _ _ _ _ _ _ us hl => match us, hl with | [_, _], _ => rfl
    d_whole := df_mk X G af6 lf6 cf6 kf6 fun _ _ _ _ _ _ us hl => match us, hl with | [_, _], _ => rfl
    d_plus := df_mk X G af7 lf7 cf7 kf7 fun _ _ _ _ _ _ us hl => match us, hl with | [_, _], _ => rfl
    d_times := df_mk X G af8 lf8 cf8 kf8 fun _ _ _ _ _ _ us hl => match us, hl with | [_, _], _ => rfl
    d_power := df_mk X G af9 lf9 cf9 kf9 fun _ _ _ _ _ _ us hl => match us, hl with | [_, _], _ => rfl
    d_moved := df_mk X G af10 lf10 cf10 kf10 fun _ _ _ _ _ _ us hl => match us, hl with | [_, _], _ => rfl
    d_sum_of_signs := df_mk X G af11 lf11 cf11 kf11 fun _ _ _ _ _ _ us hl => match us, hl with | [_, _], _ => rfl
    d_sum_of_squares := df_mk X G af12 lf12 cf12 kf12 fun _ _ _ _ _ _ us hl => match us, hl with | [_, _], _ => rfl
    d_starred := df_mk X G af13 lf13 cf13 kf13 fun _ _ _ _ _ _ us hl => match us, hl with | [_], _ => rfl
    d_trace := df_mk X G af14 lf14 cf14 kf14 fun _ _ _ _ _ _ us hl => match us, hl with | [_], _ => rfl
    d_is_whole_row := df_mk X G af15 lf15 cf15 kf15 fun _ _ _ _ _ _ us hl => match us, hl with | [_], _ => rfl
    d_rest_by := df_mk X G af16 lf16 cf16 kf16 fun _ _ _ _ _ _ us hl => match us, hl with | [_, _], _ => rfl
    d_many_sums := df_mk X G af17 lf17 cf17 kf17 fun _ _ _ _ _ _ us hl => match us, hl with | [_, _, _], _ => rfl
    d_power_of := df_mk X G af18 lf18 cf18 kf18 fun _ _ _ _ _ _ us hl => match us, hl with | [_, _], _ => rfl
    d_turned_sign := df_mk X G af19 lf19 cf19 kf19 fun _ _ _ _ _ _ us hl => match us, hl with | [_, _], _ => rfl
    d__law_state := df_mk X G af20 lf20 cf20 kf20 fun _ _ _ _ _ _ us hl => match us, hl with | [_], _ => rfl
    d__law_take := df_mk X G af21 lf21 cf21 kf21 fun _ _ _ _ _ _ us hl => match us, hl with | [_, _], _ => rfl
    d__law_pick := df_mk X G af22 lf22 cf22 kf22 fun _ _ _ _ _ _ us hl => match us, hl with | [_, _], _ => rfl
    d__law_factors := df_mk X G af23 lf23 cf23 kf23 fun _ _ _ _ _ _ us hl => match us, hl with | [_], _ => rfl
    d__law_jacobi := df_mk X G af24 lf24 cf24 kf24 fun _ _ _ _ _ _ us hl => match us, hl with | [_, _], _ => rfl
    d__law_settled := df_mk X G af25 lf25 cf25 kf25 fun _ _ _ _ _ _ us hl => match us, hl with | [_], _ => rfl
    d__law_times := df_mk X G af26 lf26 cf26 kf26 fun _ _ _ _ _ _ us hl => match us, hl with | [_, _], _ => rfl
    d__law_word := df_mk X G af27 lf27 cf27 kf27 fun _ _ _ _ _ _ us hl => match us, hl with | [_], _ => rfl
    d_law := df_mk X G af28 lf28 cf28 kf28 fun _ _ _ _ _ _ us hl => match us, hl with | [_], _ => rfl
    b_abs := PySem.W.mg_none_of X G z_abs
    b_all := PySem.W.mg_none_of X G z_all
    b_int := PySem.W.mg_none_of X G z_int
    b_len := PySem.W.mg_none_of X G z_len
    b_list := PySem.W.mg_none_of X G z_list
    b_max := PySem.W.mg_none_of X G z_max
    b_range := PySem.W.mg_none_of X G z_range
    b_sum := PySem.W.mg_none_of X G z_sum
    b_super := PySem.W.mg_none_of X G z_super
    b_tuple := PySem.W.mg_none_of X G z_tuple
    g_MOST_NUMBER := glob_int X G g_MOST_NUMBER
    e_Great := ex_mk X G aCCGreat xLCGreat hbmCGreat saCGreat exCCGreat tyCCGreat kCCGreat iniCGreat tyfCGreat lfCGreat cfCGreat lcCGreat hvCGreat hfileCGreat lcellCGreat hclsCGreat hmroCGreat supCGreat subVCGreat z_super noany topCGreat finCGreat gaCGreat ggCGreat hdCCGreat fun _ _ _ _ _ _ _ us hl => match us, hl with | [_, _], _ => rfl
    e_Misstep := ex_mk X G aCCMisstep xLCMisstep hbmCMisstep saCMisstep exCCMisstep tyCCMisstep kCCMisstep iniCMisstep tyfCMisstep lfCMisstep cfCMisstep lcCMisstep hvCMisstep hfileCMisstep lcellCMisstep hclsCMisstep hmroCMisstep supCMisstep subVCMisstep z_super noany topCMisstep finCMisstep gaCMisstep ggCMisstep hdCCMisstep fun _ _ _ _ _ _ _ us hl => match us, hl with | [_, _], _ => rfl
    x_Great_Great := exm_of exCCGreat iclCGreat tyCCGreat sCGreat_Great
    x_Great_Misstep := exm_of exCCMisstep iclCMisstep tyCCMisstep sCGreat_Misstep
    x_Misstep_Great := exm_of exCCGreat iclCGreat tyCCGreat sCMisstep_Great
    x_Misstep_Misstep := exm_of exCCMisstep iclCMisstep tyCCMisstep sCMisstep_Misstep }
  exact ⟨_, fun s v => .of_eq rfl, fun base _ _ => ok_law hmath T⟩
end K19
open PySem
open PySem.W
open PyProof.Rows
theorem PySem.Challenge.cw_formsoftwo_k19_whole_sums_of_roots_of_on_holds : PySem.Challenge.rw_formsoftwo_k19_whole_sums_of_roots_of_on.Holds := by
  w_on; o_law; k_head; (case hw => w_witness2)
  k_fill
  refine L2.walk_of (l := PySem.Challenge.rw_formsoftwo_k19_whole_sums_of_roots_of_on) (n := 63) (k := 8) (x := "script") (CX := fun w => L2.CX (PySem.Challenge.rw_formsoftwo_k19_whole_sums_of_roots_of_on).prog w) (sp := fun w => DL.spLaw _) rfl (by decide) rfl ⟨rfl, by decide, by decide⟩ (fun w h Y => PySem.W.kIn_of Y) ?F (fun _ _ a ns hl _ hS => ⟨a, ns, rfl, hS, hl, fun _ => rfl⟩) (fun _ _ _ _ _ h => by obtain ⟨_, _, _, _, _, _, _, _, _, _, _, _, z⟩ := h; exact z.elim)
  case F =>
    intro w mg fa h KX G hmg
    refine' K19.all_mk K19.law_math KX G hmg ?af0 ?lf0 ?cf0 ?kf0 ?af1 ?lf1 ?cf1 ?kf1 ?af2 ?lf2 ?cf2 ?kf2 ?af3 ?lf3 ?cf3 ?kf3 ?af4 ?lf4 ?cf4 ?kf4 ?af5 ?lf5 ?cf5 ?kf5 ?af6 ?lf6 ?cf6 ?kf6 ?af7 ?lf7 ?cf7 ?kf7 ?af8 ?lf8 ?cf8 ?kf8 ?af9 ?lf9 ?cf9 ?kf9 ?af10 ?lf10 ?cf10 ?kf10 ?af11 ?lf11 ?cf11 ?kf11 ?af12 ?lf12 ?cf12 ?kf12 ?af13 ?lf13 ?cf13 ?kf13 ?af14 ?lf14 ?cf14 ?kf14 ?af15 ?lf15 ?cf15 ?kf15 ?af16 ?lf16 ?cf16 ?kf16 ?af17 ?lf17 ?cf17 ?kf17 ?af18 ?lf18 ?cf18 ?kf18 ?af19 ?lf19 ?cf19 ?kf19 ?af20 ?lf20 ?cf20 ?kf20 ?af21 ?lf21 ?cf21 ?kf21 ?af22 ?lf22 ?cf22 ?kf22 ?af23 ?lf23 ?cf23 ?kf23 ?af24 ?lf24 ?cf24 ?kf24 ?af25 ?lf25 ?cf25 ?kf25 ?af26 ?lf26 ?cf26 ?kf26 ?af27 ?lf27 ?cf27 ?kf27 ?af28 ?lf28 ?cf28 ?kf28 ?z_abs ?z_all ?z_int ?z_len ?z_list ?z_max ?z_range ?z_sum ?z_super ?z_tuple ?g_MOST_NUMBER ?noany ?aCCGreat ?xLCGreat ?hbmCGreat ?saCGreat ?exCCGreat ?tyCCGreat ?kCCGreat ?iniCGreat ?tyfCGreat ?lfCGreat ?cfCGreat ?lcCGreat ?hvCGreat ?hfileCGreat ?lcellCGreat ?hclsCGreat ?hmroCGreat ?supCGreat ?subVCGreat ?topCGreat ?finCGreat ?gaCGreat ?ggCGreat ?hdCCGreat ?iclCGreat ?aCCMisstep ?xLCMisstep ?hbmCMisstep ?saCMisstep ?exCCMisstep ?tyCCMisstep ?kCCMisstep ?iniCMisstep ?tyfCMisstep ?lfCMisstep ?cfCMisstep ?lcCMisstep ?hvCMisstep ?hfileCMisstep ?lcellCMisstep ?hclsCMisstep ?hmroCMisstep ?supCMisstep ?subVCMisstep ?topCMisstep ?finCMisstep ?gaCMisstep ?ggCMisstep ?hdCCMisstep ?iclCMisstep ?sCGreat_Great ?sCGreat_Misstep ?sCMisstep_Great ?sCMisstep_Misstep
    (case af0 => k_is)
    (case lf0 => k_is)
    (case cf0 => k_is)
    (case kf0 => k_is)
    (case af1 => k_is)
    (case lf1 => k_is)
    (case cf1 => k_is)
    (case kf1 => k_is)
    (case af2 => k_is)
    (case lf2 => k_is)
    (case cf2 => k_is)
    (case kf2 => k_is)
    (case af3 => k_is)
    (case lf3 => k_is)
    (case cf3 => k_is)
    (case kf3 => k_is)
    (case af4 => k_is)
    (case lf4 => k_is)
    (case cf4 => k_is)
    (case kf4 => k_is)
    (case af5 => k_is)
    (case lf5 => k_is)
    (case cf5 => k_is)
    (case kf5 => k_is)
    (case af6 => k_is)
    (case lf6 => k_is)
    (case cf6 => k_is)
    (case kf6 => k_is)
    (case af7 => k_is)
    (case lf7 => k_is)
    (case cf7 => k_is)
    (case kf7 => k_is)
    (case af8 => k_is)
    (case lf8 => k_is)
    (case cf8 => k_is)
    (case kf8 => k_is)
    (case af9 => k_is)
    (case lf9 => k_is)
    (case cf9 => k_is)
    (case kf9 => k_is)
    (case af10 => k_is)
    (case lf10 => k_is)
    (case cf10 => k_is)
    (case kf10 => k_is)
    (case af11 => k_is)
    (case lf11 => k_is)
    (case cf11 => k_is)
    (case kf11 => k_is)
    (case af12 => k_is)
    (case lf12 => k_is)
    (case cf12 => k_is)
    (case kf12 => k_is)
    (case af13 => k_is)
    (case lf13 => k_is)
    (case cf13 => k_is)
    (case kf13 => k_is)
    (case af14 => k_is)
    (case lf14 => k_is)
    (case cf14 => k_is)
    (case kf14 => k_is)
    (case af15 => k_is)
    (case lf15 => k_is)
    (case cf15 => k_is)
    (case kf15 => k_is)
    (case af16 => k_is)
    (case lf16 => k_is)
    (case cf16 => k_is)
    (case kf16 => k_is)
    (case af17 => k_is)
    (case lf17 => k_is)
    (case cf17 => k_is)
    (case kf17 => k_is)
    (case af18 => k_is)
    (case lf18 => k_is)
    (case cf18 => k_is)
    (case kf18 => k_is)
    (case af19 => k_is)
    (case lf19 => k_is)
    (case cf19 => k_is)
    (case kf19 => k_is)
    (case af20 => k_is)
    (case lf20 => k_is)
    (case cf20 => k_is)
    (case kf20 => k_is)
    (case af21 => k_is)
    (case lf21 => k_is)
    (case cf21 => k_is)
    (case kf21 => k_is)
    (case af22 => k_is)
    (case lf22 => k_is)
    (case cf22 => k_is)
    (case kf22 => k_is)
    (case af23 => k_is)
    (case lf23 => k_is)
    (case cf23 => k_is)
    (case kf23 => k_is)
    (case af24 => k_is)
    (case lf24 => k_is)
    (case cf24 => k_is)
    (case kf24 => k_is)
    (case af25 => k_is)
    (case lf25 => k_is)
    (case cf25 => k_is)
    (case kf25 => k_is)
    (case af26 => k_is)
    (case lf26 => k_is)
    (case cf26 => k_is)
    (case kf26 => k_is)
    (case af27 => k_is)
    (case lf27 => k_is)
    (case cf27 => k_is)
    (case kf27 => k_is)
    (case af28 => k_is)
    (case lf28 => k_is)
    (case cf28 => k_is)
    (case kf28 => k_is)
    (case z_abs => k_is)
    (case z_all => k_is)
    (case z_int => k_is)
    (case z_len => k_is)
    (case z_list => k_is)
    (case z_max => k_is)
    (case z_range => k_is)
    (case z_sum => k_is)
    (case z_super => k_is)
    (case z_tuple => k_is)
    (case g_MOST_NUMBER => k_is)
    (case noany => k_is)
    (case aCCGreat => k_is)
    (case xLCGreat => k_is)
    (case hbmCGreat => decide +kernel)
    (case saCGreat => k_is)
    (case exCCGreat => k_is)
    (case tyCCGreat => k_is)
    (case kCCGreat => k_is)
    (case iniCGreat => k_is)
    (case tyfCGreat => k_is)
    (case lfCGreat => k_is)
    (case cfCGreat => k_is)
    (case lcCGreat => k_is)
    (case hvCGreat => first | rfl | decide +kernel)
    (case hfileCGreat => first | rfl | decide +kernel)
    (case lcellCGreat => k_is)
    (case hclsCGreat => k_is)
    (case hmroCGreat => k_is)
    (case supCGreat => ks_is)
    (case subVCGreat => k_is)
    (case topCGreat => first | rfl | decide +kernel)
    (case finCGreat => k_is)
    (case gaCGreat => k_is)
    (case ggCGreat => k_is)
    (case hdCCGreat => k_is)
    (case iclCGreat => k_is)
    (case aCCMisstep => k_is)
    (case xLCMisstep => k_is)
    (case hbmCMisstep => decide +kernel)
    (case saCMisstep => k_is)
    (case exCCMisstep => k_is)
    (case tyCCMisstep => k_is)
    (case kCCMisstep => k_is)
    (case iniCMisstep => k_is)
    (case tyfCMisstep => k_is)
    (case lfCMisstep => k_is)
    (case cfCMisstep => k_is)
    (case lcCMisstep => k_is)
    (case hvCMisstep => first | rfl | decide +kernel)
    (case hfileCMisstep => first | rfl | decide +kernel)
    (case lcellCMisstep => k_is)
    (case hclsCMisstep => k_is)
    (case hmroCMisstep => k_is)
    (case supCMisstep => ks_is)
    (case subVCMisstep => k_is)
    (case topCMisstep => first | rfl | decide +kernel)
    (case finCMisstep => k_is)
    (case gaCMisstep => k_is)
    (case ggCMisstep => k_is)
    (case hdCCMisstep => k_is)
    (case iclCMisstep => k_is)
    (case sCGreat_Great => first | rfl | k_is)
    (case sCGreat_Misstep => first | rfl | k_is)
    (case sCMisstep_Great => first | rfl | k_is)
    (case sCMisstep_Misstep => first | rfl | k_is)
