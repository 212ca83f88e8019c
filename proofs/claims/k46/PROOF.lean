import PyProof.Rows.All
import Wide.All
import OpenK.AllK
import Wide.FinOn
import KE.Datum
import HandS.ForMost
import HandS.ForExc
import HandS.Wide
import HandS.CallSlots
import HandS.ExcInit
import HandS.TryMany
import HandS.Style
import HandS.Deep
import HandS.SortInts
import HandS.TupAny
import KE.KSortedM
import KE.KExcSuper
import HandS.ExcField
import KE.KRevSl
import KE.RegKSuper
import HandS.IsInst
import HandS.Dict
import HandS.NoneIn
import KE.KDictDisplayH
import PyProof.DictFindH
import KE.SortData
import HandS.SortRule
import HandS.TupMul
import KE.KTupSum
import HandS.SetFor
import HandS.Strs
import KE.DatumOrd
import HandS.TupSets
import HandS.SortKw
import HandS.Iter
import HandS.Text
import HandS.Conv
import PySem.Challenge.RW_formsoftwo_k46_whole_best_parts_and_thre
set_option Elab.async false
set_option linter.all false
set_option maxRecDepth 100000
set_option maxHeartbeats 9000000
namespace DL
open PySem
open PySem.Spec
open PyProof.Rows
open L2
abbrev D := PyData
abbrev tokD : D := .dict [(.none, .none)]
abbrev G := Int × List Int
abbrev DK := List (List Int × Int)
inductive SV where
  | un
  | d (x : D)
  | own (xs : List D)
  | ex (fs : List (Str × D))
  | odc (kvs : DK)
  | ods (ks : List (List Int))
abbrev RS := List SV
structure Ctx where
  K : PySem.W.Frag
  cl : Str → Option Addr
  sa : Addr
  sb : Addr
  F0 : Hp
  H0 : Hp
  ea : Addr
  ed : Addr
abbrev mkC (K : PySem.W.Frag) (cl : Str → Option Addr) (sa sb : Addr) (F0 H0 : Hp) : Ctx := { K := K, cl := cl, sa := sa, sb := sb, F0 := F0, H0 := H0, ea := 0, ed := 0 }
abbrev Ctx.at (c : Ctx) (a d : Addr) : Ctx := { c with ea := a, ed := d }
inductive Out (α : Type) where
  | ok (a : α) (g : G)
  | exc (n : Str) (fs : List (Str × D)) (g : G)
  | bad
inductive SO where
  | nx (ρ : RS) (g : G)
  | rt (d : D) (g : G)
  | bk (ρ : RS) (g : G)
  | ct (ρ : RS) (g : G)
  | exc (n : Str) (fs : List (Str × D)) (ρ : RS) (g : G)
  | bad
def Out.bind {α β : Type} : Out α → (α → G → Out β) → Out β
  | .ok a g, k => k a g
  | .exc n fs g, _ => .exc n fs g
  | .bad, _ => .bad
def Out.go {α : Type} : Out α → RS → (α → G → SO) → SO
  | .ok a g, _, k => k a g
  | .exc n fs g, ρ, _ => .exc n fs ρ g
  | .bad, _, _ => .bad
abbrev EF := RS → G → Out D
abbrev TF := RS → G → Out Bool
abbrev AF := RS → G → Out (List D)
abbrev SF := RS → G → SO
theorem seqT_mono {K : PySem.W.Frag} {F F' : Hp} {a : Addr} {xs : List V} (e : Same F F') (h : SqT K F a xs) : SqT K F' a xs := by
  rcases h with (h | ⟨o, h⟩) | h
  · exact .inl (.inl (e _ _ h))
  · exact .inl (.inr ⟨o, e _ _ h⟩)
  · exact .inr h
mutual
inductive Rq (K : PySem.W.Frag) (F : Hp) : V → D → Prop
  | non : Rq K F .non .none
  | bl (b : Bool) : Rq K F (.bl b) (.bool b)
  | int (i : Int) : Rq K F (.int i) (.int i)
  | str (x : Str) : Rq K F (.str x) (.str x)
  | lst {a : Addr} {xs : List V} {ds : List D} : F a = some (.lst xs) → RqAll K F xs ds → Rq K F (.ref a) (.list ds)
  | tup {a : Addr} {xs : List V} {ds : List D} : SqT K F a xs → RqAll K F xs ds → Rq K F (.ref a) (.tuple ds)
inductive RqAll (K : PySem.W.Frag) (F : Hp) : List V → List D → Prop
  | nil : RqAll K F [] []
  | cons {v : V} {vs : List V} {d : D} {ds : List D} : Rq K F v d → RqAll K F vs ds → RqAll K F (v :: vs) (d :: ds)
end
mutual
theorem Rq_mono {K : PySem.W.Frag} {F F' : Hp} (e : Same F F') : ∀ (d : D) (v : V), Rq K F v d → Rq K F' v d
  | .none, _, h => by cases h; exact .non
  | .bool _, _, h => by cases h; exact .bl _
  | .int _, _, h => by cases h; exact .int _
  | .str _, _, h => by cases h; exact .str _
  | .list ds, _, h => by
    cases h with
    | lst h1 h2 => exact .lst (e _ _ h1) (RqAll_mono e ds _ h2)
  | .tuple ds, _, h => by
    cases h with
    | tup h1 h2 => exact .tup (seqT_mono e h1) (RqAll_mono e ds _ h2)
  | .dict _, _, h => by cases h
theorem RqAll_mono {K : PySem.W.Frag} {F F' : Hp} (e : Same F F') : ∀ (ds : List D) (vs : List V), RqAll K F vs ds → RqAll K F' vs ds
  | [], _, h => by cases h; exact .nil
  | d :: ds, _, h => by
    cases h with
    | cons h1 h2 => exact .cons (Rq_mono e d _ h1) (RqAll_mono e ds _ h2)
end
mutual
theorem Rq_dp {K : PySem.W.Frag} {F : Hp} : ∀ (d : D) (v : V), Rq K F v d → Dp K F v d
  | .none, _, h => by cases h; exact .non
  | .bool _, _, h => by cases h; exact .bl _
  | .int _, _, h => by cases h; exact .int _
  | .str _, _, h => by cases h; exact .str _
  | .list ds, _, h => by
    cases h with
    | lst h1 h2 => exact .lst (SqL.of h1) (RqAll_dp ds _ h2)
  | .tuple ds, _, h => by
    cases h with
    | tup h1 h2 => exact .tup h1 (RqAll_dp ds _ h2)
  | .dict _, _, h => by cases h
theorem RqAll_dp {K : PySem.W.Frag} {F : Hp} : ∀ (ds : List D) (vs : List V), RqAll K F vs ds → DpAll K F vs ds
  | [], _, h => by cases h; exact .nil
  | d :: ds, _, h => by
    cases h with
    | cons h1 h2 => exact .cons (Rq_dp d _ h1) (RqAll_dp ds _ h2)
end
abbrev dKV (kvs : DK) : List (List L2.Key × V) := kvs.map fun p => (p.1.map Sum.inl, .int p.2)
abbrev dicD (kvs : DK) : D := .dict (kvs.map fun p => (.tuple (p.1.map .int), .int p.2))
abbrev rngD (lo hi : Int) : D := .dict [(.none, .int lo), (.none, .int hi)]
def isDic : D → Bool
  | .dict _ => true
  | _ => false
inductive Spc (F : Hp) : V → D → Prop
  | dic {a : Addr} (kvs : DK) : F a = some (.dT (dKV kvs)) → Spc F (.ref a) (dicD kvs)
  | rng {a : Addr} (lo hi : Int) : F a = some (.rng lo hi) → Spc F (.ref a) (rngD lo hi)
theorem Spc.mono {F F' : Hp} {v : V} {d : D} (e : Same F F') (h : Spc F v d) : Spc F' v d := by
  cases h with
  | dic kvs h => exact .dic kvs (e _ _ h)
  | rng lo hi h => exact .rng lo hi (e _ _ h)
theorem Spc.notTok {F : Hp} {v : V} (h : Spc F v tokD) : False := by
  generalize e : tokD = d at h
  cases h with
  | dic kvs h =>
    injection e with e
    cases kvs with
    | nil => cases e
    | cons p r => injection e with e1 e2; injection e1 with e3 e4; cases e3
  | rng lo hi h => injection e with e; injection e with e1 e2; cases e2
def Rep (c : Ctx) (F : Hp) (v : V) (d : D) : Prop := Rq c.K F v d ∨ (((v = .ref c.sa ∧ d = tokD) ∨ Spc F v d) ∧ isDic d = true)
theorem Rep.mono {c : Ctx} {F F' : Hp} {v : V} {d : D} (e : Same F F') (h : Rep c F v d) : Rep c F' v d := h.imp (Rq_mono e d v) fun x => ⟨x.1.imp id (Spc.mono e), x.2⟩
theorem Rep.rq {c : Ctx} {F : Hp} {v : V} {d : D} (h : Rep c F v d) (n : isDic d = false) : Rq c.K F v d := h.elim id fun x => (by rw [n] at x; exact absurd x.2 (by decide))
theorem repDic {c : Ctx} {F : Hp} {a : Addr} {kvs : DK} (h : F a = some (.dT (dKV kvs))) : Rep c F (.ref a) (dicD kvs) := .inr ⟨.inr (.dic kvs h), rfl⟩
theorem repRng {c : Ctx} {F : Hp} {a : Addr} {lo hi : Int} (h : F a = some (.rng lo hi)) : Rep c F (.ref a) (rngD lo hi) := .inr ⟨.inr (.rng lo hi h), rfl⟩
theorem repTok {c : Ctx} {F : Hp} : Rep c F (.ref c.sa) tokD := .inr ⟨.inl ⟨rfl, rfl⟩, rfl⟩
theorem Rep.int {c : Ctx} {F : Hp} {v : V} {i : Int} (h : Rep c F v (.int i)) : v = .int i := by
  rcases h with h | ⟨_, h⟩
  · cases h; rfl
  · cases h
theorem Rep.bl {c : Ctx} {F : Hp} {v : V} {b : Bool} (h : Rep c F v (.bool b)) : v = .bl b := by
  rcases h with h | ⟨_, h⟩
  · cases h; rfl
  · cases h
theorem Rep.non {c : Ctx} {F : Hp} {v : V} (h : Rep c F v .none) : v = .non := by
  rcases h with h | ⟨_, h⟩
  · cases h; rfl
  · cases h
theorem Rep.str {c : Ctx} {F : Hp} {v : V} {x : Str} (h : Rep c F v (.str x)) : v = .str x := by
  rcases h with h | ⟨_, h⟩
  · cases h; rfl
  · cases h
theorem Rep.list {c : Ctx} {F : Hp} {v : V} {ds : List D} (h : Rep c F v (.list ds)) : ∃ a vs, v = .ref a ∧ F a = some (.lst vs) ∧ RqAll c.K F vs ds := by
  rcases h with h | ⟨_, h⟩
  · cases h with
    | lst h1 h2 => exact ⟨_, _, rfl, h1, h2⟩
  · cases h
theorem Rep.tuple {c : Ctx} {F : Hp} {v : V} {ds : List D} (h : Rep c F v (.tuple ds)) : ∃ a vs, v = .ref a ∧ SqT c.K F a vs ∧ RqAll c.K F vs ds := by
  rcases h with h | ⟨_, h⟩
  · cases h with
    | tup h1 h2 => exact ⟨_, _, rfl, h1, h2⟩
  · cases h
theorem rInt {c : Ctx} {F : Hp} {i : Int} : Rep c F (.int i) (.int i) := .inl (.int i)
theorem rBl {c : Ctx} {F : Hp} {b : Bool} : Rep c F (.bl b) (.bool b) := .inl (.bl b)
theorem rNon {c : Ctx} {F : Hp} : Rep c F .non .none := .inl .non
theorem rStr {c : Ctx} {F : Hp} {x : Str} : Rep c F (.str x) (.str x) := .inl (.str x)
inductive RepAll (c : Ctx) (F : Hp) : List V → List D → Prop
  | nil : RepAll c F [] []
  | cons {v : V} {vs : List V} {d : D} {ds : List D} : Rep c F v d → RepAll c F vs ds → RepAll c F (v :: vs) (d :: ds)
theorem RepAll.mono {c : Ctx} {F F' : Hp} (e : Same F F') : ∀ {vs : List V} {ds : List D}, RepAll c F vs ds → RepAll c F' vs ds
  | _, _, .nil => .nil
  | _, _, .cons h t => .cons (h.mono e) (RepAll.mono e t)
theorem RepAll.length {c : Ctx} {F : Hp} : ∀ {vs : List V} {ds : List D}, RepAll c F vs ds → vs.length = ds.length
  | _, _, .nil => rfl
  | _, _, .cons _ t => by rw [List.length_cons, List.length_cons, RepAll.length t]
theorem RqAll.len {K : PySem.W.Frag} {F : Hp} : ∀ {vs : List V} {ds : List D}, RqAll K F vs ds → vs.length = ds.length
  | _, _, .nil => rfl
  | _, _, .cons _ t => by rw [List.length_cons, List.length_cons, RqAll.len t]
theorem RqAll.get {K : PySem.W.Frag} {F : Hp} : ∀ {vs : List V} {ds : List D} {i : Nat} {d : D}, RqAll K F vs ds → ds[i]? = some d → ∃ v, vs[i]? = some v ∧ Rq K F v d
  | _, _, _, _, .nil, h => by simp at h
  | _, _, 0, _, .cons h _, e => by
    simp at e
    exact ⟨_, rfl, by rw [← e]; exact h⟩
  | _, _, i + 1, d, .cons _ t, e => by
    obtain ⟨v, h1, h2⟩ := RqAll.get (i := i) (d := d) t (by simpa using e)
    exact ⟨v, by simpa using h1, h2⟩
theorem RqAll.append {K : PySem.W.Frag} {F : Hp} : ∀ {vs ws : List V} {ds es : List D}, RqAll K F vs ds → RqAll K F ws es → RqAll K F (vs ++ ws) (ds ++ es)
  | _, _, _, _, .nil, h => h
  | _, _, _, _, .cons h t, k => .cons h (RqAll.append t k)
theorem RqAll.drop {K : PySem.W.Frag} {F : Hp} : ∀ {vs : List V} {ds : List D} (n : Nat), RqAll K F vs ds → RqAll K F (vs.drop n) (ds.drop n)
  | _, _, 0, h => h
  | _, _, _ + 1, .nil => .nil
  | _, _, n + 1, .cons _ t => RqAll.drop n t
theorem RqAll.take {K : PySem.W.Frag} {F : Hp} : ∀ {vs : List V} {ds : List D} (n : Nat), RqAll K F vs ds → RqAll K F (vs.take n) (ds.take n)
  | _, _, 0, _ => .nil
  | _, _, _ + 1, .nil => .nil
  | _, _, n + 1, .cons h t => .cons h (RqAll.take n t)
theorem RqAll.ints {K : PySem.W.Frag} {F : Hp} : ∀ {vs : List V} {ns : List Int}, RqAll K F vs (ns.map PyData.int) → vs = ns.map V.int
  | _, [], h => by cases h; rfl
  | _, n :: ns, h => by
    cases h with
    | cons h t =>
      cases h
      rw [RqAll.ints t]
      rfl
theorem RqAll.bls {K : PySem.W.Frag} {F : Hp} : ∀ {vs : List V} {ns : List Bool}, RqAll K F vs (ns.map PyData.bool) → vs = ns.map V.bl
  | _, [], h => by cases h; rfl
  | _, n :: ns, h => by
    cases h with
    | cons h t =>
      cases h
      rw [RqAll.bls t]
      rfl
theorem dpInts {K : PySem.W.Frag} {F : Hp} : ∀ (ns : List Int), RqAll K F (ns.map V.int) (ns.map PyData.int)
  | [] => .nil
  | n :: ns => .cons (.int n) (dpInts ns)
theorem RqAll.set {K : PySem.W.Frag} {F : Hp} {v : V} {d : D} (h : Rq K F v d) : ∀ {vs : List V} {ds : List D} (i : Nat), RqAll K F vs ds → RqAll K F (vs.set i v) (ds.set i d)
  | _, _, _, .nil => .nil
  | _, _, 0, .cons _ t => .cons h t
  | _, _, i + 1, .cons q t => .cons q (RqAll.set h i t)
structure GOk (c : Ctx) (F H : Hp) (g : G) : Prop where
  ne : c.sa ≠ c.sb
  ha : H c.sa = some (.lst [.int g.1, .ref c.sb])
  hb : H c.sb = some (.lst (g.2.map V.int))
  fa : F c.sa = none
  fb : F c.sb = none
  wf : g.2 ≠ []
structure Ext (sa sb : Addr) (F H F' H' : Hp) : Prop where
  f : Same F F'
  fh : Same F' H'
  keep : ∀ p o, H p = some o → p ≠ sa → p ≠ sb → H' p = some o
  dom : ∀ p o, H p = some o → ∃ o', H' p = some o'
  ff : ∀ p o, H p = some o → F' p = F p
theorem Ext.refl {sa sb : Addr} {F H : Hp} (h : Same F H) : Ext sa sb F H F H := ⟨Same.refl F, h, fun _ _ h _ _ => h, fun _ o h => ⟨o, h⟩, fun _ _ _ => rfl⟩
theorem Ext.trans {sa sb : Addr} {F H F1 H1 F2 H2 : Hp} (a : Ext sa sb F H F1 H1) (b : Ext sa sb F1 H1 F2 H2) : Ext sa sb F H F2 H2 where
  f := a.f.trans b.f
  fh := b.fh
  keep := fun p o h n m => b.keep p o (a.keep p o h n m) n m
  dom := fun p o h => by
    obtain ⟨o', h'⟩ := a.dom p o h
    exact b.dom p o' h'
  ff := fun p o h => by
    obtain ⟨o', h'⟩ := a.dom p o h
    rw [b.ff p o' h', a.ff p o h]
def FldR (c : Ctx) (F : Hp) (vs : List (Str × V)) (fs : List (Str × D)) : Prop := Paired (fun (p : Str × V) (q : Str × D) => p.1 = q.1 ∧ Rq c.K F p.2 q.2) vs fs
theorem FldR.mono {c : Ctx} {F F' : Hp} (e : Same F F') : ∀ {vs : List (Str × V)} {fs : List (Str × D)}, FldR c F vs fs → FldR c F' vs fs
  | _, _, .nil => .nil
  | _, _, .cons h t => .cons ⟨h.1, Rq_mono e _ _ h.2⟩ (FldR.mono e t)
def hI (k : List Int) : Int := reduceHash (Builtin.Tuple.tupleHashOf (k.map hashInt))
abbrev rowI (x : List Int × Addr) : DictEntry := ⟨hI x.1, .ref x.2, .bool true⟩
abbrev DsO (a : Addr) (L : List (List Int × Addr)) : HO := .ext fun h => (a == sysModules) = false ∧ L.length ≤ sizeLine ∧ ∃ (o : Obj) (es : Array DictEntry) (ep : Nat), h.get? a = some o ∧ o.ExactDict ∧ o.data = .dict es ep ∧ es.toList = L.map rowI ∧ (L.map (·.1)).Nodup
def SlotR (c : Ctx) (F H : Hp) (o : Option (Option V)) : SV → Prop
  | .un => True
  | .d x => ∃ v, o = some (some v) ∧ Rep c F v x
  | .own xs => ∃ a vs, o = some (some (.ref a)) ∧ H a = some (.lst vs) ∧ RqAll c.K F vs xs ∧ F a = none ∧ c.H0 a = none
  | .ex fs => ∃ vs, o = some (some (.ref c.ea)) ∧ H c.ed = some (.xd vs) ∧ FldR c F vs fs
  | .odc kvs => ∃ a, o = some (some (.ref a)) ∧ H a = some (.dT (dKV kvs)) ∧ F a = none ∧ c.H0 a = none
  | .ods ks => ∃ a L, o = some (some (.ref a)) ∧ H a = some (DsO a L) ∧ L.map (·.1) = ks ∧ (∀ x ∈ L, SqT c.K F x.2 (x.1.map V.int)) ∧ F a = none ∧ c.H0 a = none
structure SR (c : Ctx) (F H : Hp) (σ : L2.St) (ρ : RS) (g : G) : Prop where
  ext : Ext c.sa c.sb c.F0 c.H0 F H
  gok : GOk c F H g
  g0 : ∃ o o', c.H0 c.sa = some o ∧ c.H0 c.sb = some o'
  len : σ.length = ρ.length
  slots : ∀ (i : Nat) (x : SV), ρ[i]? = some x → SlotR c F H σ[i]? x
  sep : ∀ (i j : Nat) (xs ys : List D) (a : Addr), ρ[i]? = some (.own xs) → ρ[j]? = some (.own ys) → σ[i]? = some (some (.ref a)) → σ[j]? = some (some (.ref a)) → i = j
theorem SR.fh {c : Ctx} {F H : Hp} {σ : L2.St} {ρ : RS} {g : G} (s : SR c F H σ ρ g) : Same F H := s.ext.fh
theorem SR.ownNe {c : Ctx} {F H : Hp} {σ : L2.St} {ρ : RS} {g : G} (s : SR c F H σ ρ g) {a : Addr} (h : c.H0 a = none) : a ≠ c.sa ∧ a ≠ c.sb := by
  obtain ⟨o, o', h1, h2⟩ := s.g0
  exact ⟨fun e => (by rw [e, h1] at h; cases h), fun e => (by rw [e, h2] at h; cases h)⟩
theorem SR.ext' {c : Ctx} {F H F' H' : Hp} {σ : L2.St} {ρ : RS} {g g' : G} (s : SR c F H σ ρ g) (e : Ext c.sa c.sb F H F' H') (k : GOk c F' H' g') : SR c F' H' σ ρ g' where
  ext := s.ext.trans e
  gok := k
  g0 := s.g0
  len := s.len
  slots := fun i x h => by
    have q := s.slots i x h
    cases x with
    | un => trivial
    | d x =>
      obtain ⟨v, h1, h2⟩ := q
      exact ⟨v, h1, h2.mono e.f⟩
    | own xs =>
      obtain ⟨a, vs, h1, h2, h3, h4, h5⟩ := q
      obtain ⟨n1, n2⟩ := s.ownNe h5
      exact ⟨a, vs, h1, e.keep a _ h2 n1 n2, RqAll_mono e.f _ _ h3, by rw [e.ff a _ h2]; exact h4, h5⟩
    | ex fs =>
      obtain ⟨vs, h1, h2, h3⟩ := q
      refine ⟨vs, h1, e.keep _ _ h2 (fun z => ?_) (fun z => ?_), h3.mono e.f⟩
      · rw [z, s.gok.ha] at h2; cases h2
      · rw [z, s.gok.hb] at h2; cases h2
    | odc kvs =>
      obtain ⟨a, h1, h2, h3, h4⟩ := q
      obtain ⟨n1, n2⟩ := s.ownNe h4
      exact ⟨a, h1, e.keep a _ h2 n1 n2, by rw [e.ff a _ h2]; exact h3, h4⟩
    | ods ks =>
      obtain ⟨a, L, h1, h2, h3, h4, h5, h6⟩ := q
      obtain ⟨n1, n2⟩ := s.ownNe h6
      exact ⟨a, L, h1, e.keep a _ h2 n1 n2, h3, fun x hx => seqT_mono e.f (h4 x hx), by rw [e.ff a _ h2]; exact h5, h6⟩
  sep := s.sep
theorem Ext.new {sa sb : Addr} {F H : Hp} (h : Same F H) {p : Addr} {o : HO} (n : H p = none) : Ext sa sb F H (upd F p o) (upd H p o) where
  f := fun b x e => by rw [upd_ne (ne_of_none e (by cases q : F p with | none => rfl | some y => rw [h _ _ q] at n; cases n))]; exact e
  fh := fun b x e => by
    by_cases hb : b = p
    · subst hb
      rw [upd_same] at e ⊢
      exact e
    · rw [upd_ne hb] at e ⊢
      exact h _ _ e
  keep := fun b x e _ _ => by rw [upd_ne (ne_of_none e n)]; exact e
  dom := fun b x e => ⟨x, by rw [upd_ne (ne_of_none e n)]; exact e⟩
  ff := fun b x e => by rw [upd_ne (ne_of_none e n)]
theorem Ext.newM {sa sb : Addr} {F H : Hp} (h : Same F H) {p : Addr} {o : HO} (n : H p = none) : Ext sa sb F H F (upd H p o) where
  f := Same.refl F
  fh := fun b x e => by
    have q := h _ _ e
    rw [upd_ne (ne_of_none q n)]
    exact q
  keep := fun b x e _ _ => by rw [upd_ne (ne_of_none e n)]; exact e
  dom := fun b x e => ⟨x, by rw [upd_ne (ne_of_none e n)]; exact e⟩
  ff := fun b x e => rfl
theorem GOk.ext {c : Ctx} {F H F' H' : Hp} {g : G} (k : GOk c F H g) (h1 : F' c.sa = F c.sa) (h2 : F' c.sb = F c.sb) (h3 : H' c.sa = H c.sa) (h4 : H' c.sb = H c.sb) : GOk c F' H' g :=
  ⟨k.ne, by rw [h3]; exact k.ha, by rw [h4]; exact k.hb, by rw [h1]; exact k.fa, by rw [h2]; exact k.fb, k.wf⟩
theorem GOk.new {c : Ctx} {F H : Hp} {g : G} (k : GOk c F H g) {p : Addr} {o : HO} (n : H p = none) : GOk c (upd F p o) (upd H p o) g := by
  have n1 : c.sa ≠ p := ne_of_none k.ha n
  have n2 : c.sb ≠ p := ne_of_none k.hb n
  exact k.ext (upd_ne n1) (upd_ne n2) (upd_ne n1) (upd_ne n2)
theorem GOk.newM {c : Ctx} {F H : Hp} {g : G} (k : GOk c F H g) {p : Addr} {o : HO} (n : H p = none) : GOk c F (upd H p o) g := by
  have n1 : c.sa ≠ p := ne_of_none k.ha n
  have n2 : c.sb ≠ p := ne_of_none k.hb n
  exact k.ext rfl rfl (upd_ne n1) (upd_ne n2)
theorem SR.new {c : Ctx} {F H : Hp} {σ : L2.St} {ρ : RS} {g : G} (s : SR c F H σ ρ g) {p : Addr} {o : HO} (n : H p = none) : SR c (upd F p o) (upd H p o) σ ρ g :=
  s.ext' (Ext.new s.fh n) (s.gok.new n)
theorem SR.newM {c : Ctx} {F H : Hp} {σ : L2.St} {ρ : RS} {g : G} (s : SR c F H σ ρ g) {p : Addr} {o : HO} (n : H p = none) : SR c F (upd H p o) σ ρ g :=
  s.ext' (Ext.newM s.fh n) (s.gok.newM n)
theorem SR.same {c : Ctx} {F H : Hp} {σ : L2.St} {ρ : RS} {g : G} (s : SR c F H σ ρ g) {p : Addr} {o : HO} (n : H p = none) : Same F (upd F p o) := (Ext.new (sa := c.sa) (sb := c.sb) s.fh n).f
theorem SR.fnone {c : Ctx} {F H : Hp} {σ : L2.St} {ρ : RS} {g : G} (s : SR c F H σ ρ g) {p : Addr} (n : H p = none) : F p = none := by
  cases q : F p with
  | none => rfl
  | some y => rw [s.fh _ _ q] at n; cases n
def PostG {α β : Type} (c : Ctx) (σ : L2.St) (R : Hp → β → α → Prop) (o : Out α) (F H : Hp) (W : WX) (Q : β → Hp → Prop) : Prop :=
  match o with
  | .ok a g => ∀ b F' H', Ext c.sa c.sb F H F' H' → GOk c F' H' g → R F' b a → Q b H'
  | .exc n fs g => ∀ C dx vs F' H', Ext c.sa c.sb F H F' H' → GOk c F' H' g → c.cl n = some C → H' dx = some (.xd vs) → FldR c F' vs fs → W (.ref C) (some dx) σ H'
  | .bad => False
theorem PostG.up {α β : Type} {c : Ctx} {σ : L2.St} {R : Hp → β → α → Prop} {o : Out α} {F H F' H' : Hp} {W : WX} {Q : β → Hp → Prop} (h : PostG c σ R o F H W Q) (e : Ext c.sa c.sb F H F' H') : PostG c σ R o F' H' W Q := by
  cases o with
  | ok a g => exact fun b F1 H1 s => h b F1 H1 (e.trans s)
  | exc n fs g => exact fun C dx vs F1 H1 s => h C dx vs F1 H1 (e.trans s)
  | bad => exact h
theorem PostG.bind {α β α' β' : Type} {c : Ctx} {σ : L2.St} {ρ : RS} {g0 : G} {R : Hp → β → α → Prop} {R' : Hp → β' → α' → Prop} {o : Out α} {k : α → G → Out α'} {F H : Hp} {W : WX} {Q : β → Hp → Prop} {Q' : β' → Hp → Prop}
    (s0 : SR c F H σ ρ g0) (h : PostG c σ R' (o.bind k) F H W Q') (q : ∀ a g b F1 H1, Ext c.sa c.sb F H F1 H1 → SR c F1 H1 σ ρ g → R F1 b a → PostG c σ R' (k a g) F1 H1 W Q' → Q b H1) : PostG c σ R o F H W Q := by
  cases o with
  | ok a g => exact fun b F1 H1 e gk r => q a g b F1 H1 e (s0.ext' e gk) r (PostG.up (show PostG c σ R' (k a g) F H W Q' from h) e)
  | exc n fs g => exact h
  | bad => exact h
def RB : Hp → Bool → Bool → Prop := fun _ a b => a = b
def tE (c : Ctx) (W : WX) (f : EF) : TE := fun σ H Q => ∃ F ρ g, SR c F H σ ρ g ∧ PostG c σ (Rep c) (f ρ g) F H W Q
def tT (c : Ctx) (W : WX) (f : TF) : TT := fun σ H Q => ∃ F ρ g, SR c F H σ ρ g ∧ PostG c σ RB (f ρ g) F H W Q
def tAr (c : Ctx) (W : WX) (f : AF) : TA := fun σ H Q => ∃ F ρ g, SR c F H σ ρ g ∧ PostG c σ (RepAll c) (f ρ g) F H W Q
abbrev DE (X : Cx) (c : Ctx) (W : WX) (e : Expr) (f : EF) : Prop := PE X e (tE c W f)
abbrev DT (X : Cx) (c : Ctx) (W : WX) (e : Expr) (f : TF) : Prop := PT X e (tT c W f)
abbrev DA (X : Cx) (c : Ctx) (W : WX) (es : List Expr) (f : AF) : Prop := PA X es (tAr c W f)
theorem PE.imp {X : Cx} {e : Expr} {t t' : TE} (h : PE X e t) (q : ∀ σ H Q, t' σ H Q → t σ H Q) : PE X e t' := ⟨fun pins s σ H Q I w => h.run pins s σ H Q I (q σ H Q w)⟩
theorem PT.imp {X : Cx} {e : Expr} {t t' : TT} (h : PT X e t) (q : ∀ σ H Q, t' σ H Q → t σ H Q) : PT X e t' := ⟨fun pins s σ H Q I w => h.run pins s σ H Q I (q σ H Q w)⟩
theorem PW.imp {X : Cx} {e : Expr} {t t' : TT} (h : PW X e t) (q : ∀ σ H Q, t' σ H Q → t σ H Q) : PW X e t' := ⟨fun wh pins s σ H Q I w => h.run wh pins s σ H Q I (q σ H Q w)⟩
theorem PA.imp {X : Cx} {e : List Expr} {t t' : TA} (h : PA X e t) (q : ∀ σ H Q, t' σ H Q → t σ H Q) : PA X e t' := ⟨fun pos pins s σ H Q I w => h.run pos pins s σ H Q I (q σ H Q w)⟩
theorem PS.imp {X : Cx} {e : Stmt} {t t' : TS} (h : PS X e t) (q : ∀ E σ H, t' E σ H → t E σ H) : PS X e t' := ⟨fun pins s σ H E I w => h.run pins s σ H E I (q E σ H w)⟩
theorem PSs.imp {X : Cx} {e : List Stmt} {t t' : TS} (h : PSs X e t) (q : ∀ E σ H, t' E σ H → t E σ H) : PSs X e t' := ⟨fun pins s σ H E I w => h.run pins s σ H E I (q E σ H w)⟩
theorem PostG.now {α β : Type} {c : Ctx} {σ : L2.St} {ρ : RS} {R : Hp → β → α → Prop} {a : α} {b : β} {g : G} {F H : Hp} {W : WX} {Q : β → Hp → Prop} (h : PostG c σ R (.ok a g) F H W Q) (s : SR c F H σ ρ g) (r : R F b a) : Q b H := h b F H (Ext.refl s.fh) s.gok r
theorem tE_ok {c : Ctx} {W : WX} {f : EF} {σ : L2.St} {H F : Hp} {ρ : RS} {g : G} {Q : VK} (s : SR c F H σ ρ g) (h : PostG c σ (Rep c) (f ρ g) F H W Q) : tE c W f σ H Q := ⟨F, ρ, g, s, h⟩
end DL
namespace DL
open PySem
open PySem.Spec
open PyProof.Rows
open L2
abbrev LIM : Nat := 1000000
theorem lim_ok {n : Nat} (h : n ≤ LIM) : n ≤ sizeLine := by rw [sizeLine_eq]; exact Nat.le_trans h (by decide)
theorem lim_lt {n : Nat} (h : n < LIM) : n < sizeLine := by rw [sizeLine_eq]; exact Nat.lt_trans h (by decide)
section
variable {X : Cx} {c : Ctx} {W : WX} {pos : Pos}
def eV (i : Nat) : EF := fun ρ g => match ρ[i]? with
  | some (.d x) => .ok x g
  | _ => .bad
def eC (d : D) : EF := fun _ g => .ok d g
theorem d_var {i : Nat} {x : Str} (h : PE X (.Name x pos) (tVar i)) : DE X c W (.Name x pos) (eV i) := PE.imp h fun σ H Q ⟨F, ρ, g, s, h⟩ => by
  unfold eV at h
  cases e : ρ[i]? with
  | none => rw [e] at h; exact h.elim
  | some y =>
    rw [e] at h
    cases y with
    | un => exact h.elim
    | own _ => exact h.elim
    | ex _ => exact h.elim
    | odc _ => exact h.elim
    | ods _ => exact h.elim
    | d y =>
      obtain ⟨v, h1, h2⟩ := s.slots i _ e
      exact ⟨v, h1, h.now s h2⟩
theorem d_const {e : Expr} {v : V} {d : D} (h : PE X e (tC v)) (r : ∀ F, Rq c.K F v d) : DE X c W e (eC d) := PE.imp h fun σ H Q ⟨F, ρ, g, s, h⟩ => h.now s (.inl (r F))
theorem d_int {i : Int} {j pos} : DE X c W (.Constant (.int i) j pos) (eC (.int i)) := d_const pe_int fun _ => .int i
theorem d_bl {b : Bool} {j pos} : DE X c W (.Constant (.bool b) j pos) (eC (.bool b)) := d_const pe_bl fun _ => .bl b
theorem d_non {j pos} : DE X c W (.Constant .none j pos) (eC .none) := d_const pe_non fun _ => .non
theorem d_str {x : Str} {j pos} : DE X c W (.Constant (.str x) j pos) (eC (.str x)) := d_const pe_str fun _ => .str x
variable {a b : Expr} {fa fb : EF} {op : Operator}
def eBin (φ : D → D → G → Out D) (fa fb : EF) : EF := fun ρ g => (fa ρ g).bind fun x g1 => (fb ρ g1).bind fun y g2 => φ x y g2
def Keeps2 (c : Ctx) (W : WX) (r : R2) (φ : D → D → G → Out D) : Prop := ∀ (σ : L2.St) (ρ : RS) (g : G) (F H : Hp) (x y : V) (dx dy : D) (Q : VK), SR c F H σ ρ g → Rep c F x dx → Rep c F y dy → PostG c σ (Rep c) (φ dx dy g) F H W Q → r x y H Q
theorem d_bin {r : R2} {φ : D → D → G → Out D} (ho : OpR X (binaryOp op) r) (hr : Keeps2 c W r φ) (ha : DE X c W a fa) (hb : DE X c W b fb) : DE X c W (.BinOp a op b pos) (eBin φ fa fb) :=
  PE.imp (pe_op ho ha hb) fun σ H Q ⟨F, ρ, g, s, h⟩ => ⟨F, ρ, g, s, PostG.bind s h fun x g1 v F1 H1 e1 s1 r1 h1 => ⟨F1, ρ, g1, s1, PostG.bind s1 (o := fb ρ g1) (k := fun y g2 => φ x y g2) h1 fun y g2 u F2 H2 e2 s2 r2 h2 => hr σ ρ g2 F2 H2 v u x y Q s2 (r1.mono e2.f) r2 h2⟩⟩
def opAdd (x y : D) (g : G) : Out D := match x, y with
  | .int i, .int j => .ok (.int (i + j)) g
  | .str i, .str j => if i.length + j.length ≤ LIM then .ok (.str (i ++ j)) g else .bad
  | .list i, .list j => if i.length + j.length ≤ LIM then .ok (.list (i ++ j)) g else .bad
  | .tuple i, .tuple j => if i.length + j.length ≤ LIM then .ok (.tuple (i ++ j)) g else .bad
  | _, _ => .bad
def opSub (x y : D) (g : G) : Out D := match x, y with
  | .int i, .int j => .ok (.int (i - j)) g
  | _, _ => .bad
def MulOk (i j : Int) : Prop := (-(2 ^ 64) < i ∧ i < 2 ^ 64) ∨ (-(2 ^ 64) < j ∧ j < 2 ^ 64) ∨ i.natAbs.log2 + j.natAbs.log2 < 1000000
instance {i j : Int} : Decidable (MulOk i j) := by unfold MulOk; infer_instance
def opMul (x y : D) (g : G) : Out D := match x, y with
  | .int i, .int j => if MulOk i j then .ok (.int (i * j)) g else .bad
  | .list xs, .int k => if k ≤ LIM ∧ -(2 ^ 62) ≤ k ∧ xs.length * k.toNat ≤ LIM then .ok (.list (List.replicate k.toNat xs).flatten) g else .bad
  | _, _ => .bad
def DivOk (j : Int) : Prop := (j ≠ 0 ∧ j.natAbs < 1073741824) ∨ (0 < j ∧ j.natAbs.log2 < 9000)
instance {j : Int} : Decidable (DivOk j) := by unfold DivOk; infer_instance
def opDiv (x y : D) (g : G) : Out D := match x, y with
  | .int i, .int j => if DivOk j then .ok (.int (i.fdiv j)) g else .bad
  | _, _ => .bad
def opMod (x y : D) (g : G) : Out D := match x, y with
  | .int i, .int j => if j ≠ 0 then .ok (.int (i.fmod j)) g else .bad
  | _, _ => .bad
def opPow (x y : D) (g : G) : Out D := match x, y with
  | .int i, .int j => if 0 ≤ j ∧ j ≤ 1000000 ∧ i.natAbs < 2 ^ 64 then .ok (.int (i ^ j.toNat)) g else .bad
  | _, _ => .bad
theorem DpAll_ne {K : PySem.W.Frag} {F : Hp} {xs : List V} {ds : List D} (h : RqAll K F xs ds) : xs = [] ↔ ds = [] := by
  cases h with
  | nil => exact ⟨fun _ => rfl, fun _ => rfl⟩
  | cons _ _ => exact ⟨fun e => (by cases e), fun e => (by cases e)⟩
theorem RqAll.rep {K : PySem.W.Frag} {F : Hp} {xs : List V} {ds : List D} (h : RqAll K F xs ds) : ∀ k : Nat, RqAll K F (List.replicate k xs).flatten (List.replicate k ds).flatten
  | 0 => .nil
  | k + 1 => by
    rw [List.replicate_succ, List.replicate_succ, List.flatten_cons, List.flatten_cons]
    exact h.append (RqAll.rep h k)
theorem SR.newRq {c : Ctx} {F H : Hp} {σ : L2.St} {ρ : RS} {g : G} (s : SR c F H σ ρ g) {p : Addr} {o : HO} (n : H p = none) {vs : List V} {ds : List D} (h : RqAll c.K F vs ds) : RqAll c.K (upd F p o) vs ds := RqAll_mono (s.same n) ds vs h
theorem SR.newList {c : Ctx} {F H : Hp} {σ : L2.St} {ρ : RS} {g : G} (s : SR c F H σ ρ g) {p : Addr} (n : H p = none) {vs : List V} {ds : List D} (h : RqAll c.K F vs ds) : Rep c (upd F p (.lst vs)) (.ref p) (.list ds) := .inl (.lst upd_same (s.newRq n h))
theorem SR.newTup {c : Ctx} {F H : Hp} {σ : L2.St} {ρ : RS} {g : G} (s : SR c F H σ ρ g) {p : Addr} (n : H p = none) {vs : List V} {ds : List D} (h : RqAll c.K F vs ds) : Rep c (upd F p (.tup vs)) (.ref p) (.tuple ds) := .inl (.tup (SqT.of upd_same) (s.newRq n h))
theorem PostG.newList {c : Ctx} {F H : Hp} {σ : L2.St} {ρ : RS} {g : G} {W : WX} {Q : VK} {ds : List D} (h : PostG c σ (Rep c) (.ok (.list ds) g) F H W Q) (s : SR c F H σ ρ g) {p : Addr} (n : H p = none) {vs : List V} (r : RqAll c.K F vs ds) : Q (.ref p) (upd H p (.lst vs)) :=
  h _ _ _ (Ext.new s.fh n) (s.gok.new n) (s.newList n r)
theorem PostG.newTup {c : Ctx} {F H : Hp} {σ : L2.St} {ρ : RS} {g : G} {W : WX} {Q : VK} {ds : List D} (h : PostG c σ (Rep c) (.ok (.tuple ds) g) F H W Q) (s : SR c F H σ ρ g) {p : Addr} (n : H p = none) {vs : List V} (r : RqAll c.K F vs ds) : Q (.ref p) (upd H p (.tup vs)) :=
  h _ _ _ (Ext.new s.fh n) (s.gok.new n) (s.newTup n r)
theorem PostG.ite {α β : Type} {c : Ctx} {σ : L2.St} {R : Hp → β → α → Prop} {p : Prop} [Decidable p] {o : Out α} {F H : Hp} {W : WX} {Q : β → Hp → Prop} (h : PostG c σ R (if p then o else .bad) F H W Q) : p ∧ PostG c σ R o F H W Q := by
  by_cases hp : p
  · rw [if_pos hp] at h; exact ⟨hp, h⟩
  · rw [if_neg hp] at h; exact h.elim
def rAddA (K : PySem.W.Frag) : R2 := fun x y H Q => (∃ i j, x = .int i ∧ y = .int j ∧ Q (.int (i + j)) H) ∨ (∃ i j, x = .str i ∧ y = .str j ∧ i.length + j.length ≤ sizeLine ∧ Q (.str (i ++ j)) H) ∨ rCat x y H Q ∨ rCatA K x y H Q
theorem op_addA : OpR X (binaryOp .Add) (rAddA X.K) := op_add.or (op_add_str.or (op_cat.or op_catA))
theorem k_add : Keeps2 c W (rAddA c.K) opAdd := by
  intro σ ρ g F H x y dx dy Q s rx ry h
  unfold opAdd at h
  split at h
  · cases rx.int; cases ry.int
    exact .inl ⟨_, _, rfl, rfl, h.now s rInt⟩
  · cases rx.str; cases ry.str
    obtain ⟨h1, h⟩ := h.ite
    exact .inr (.inl ⟨_, _, rfl, rfl, lim_ok h1, h.now s rStr⟩)
  · obtain ⟨a, vs, rfl, h1, h2⟩ := rx.list
    obtain ⟨b, ws, rfl, h3, h4⟩ := ry.list
    obtain ⟨hl, h⟩ := h.ite
    exact .inr (.inr (.inl ⟨a, b, vs, ws, rfl, rfl, s.fh _ _ h1, s.fh _ _ h3, lim_ok (by rw [h2.len, h4.len]; exact hl), fun p n => h.newList s n (h2.append h4)⟩))
  · obtain ⟨a, vs, rfl, h1, h2⟩ := rx.tuple
    obtain ⟨b, ws, rfl, h3, h4⟩ := ry.tuple
    obtain ⟨hl, h⟩ := h.ite
    refine .inr (.inr (.inr ⟨a, b, vs, ws, rfl, rfl, seqT_mono s.fh h1, seqT_mono s.fh h3, lim_ok (by rw [h2.len, h4.len]; exact hl), fun e => ?_, fun _ e => ?_, fun _ _ p n => h.newTup s n (h2.append h4)⟩))
    · rw [(DpAll_ne h2).mp e] at h
      exact h.now s ry
    · rw [(DpAll_ne h4).mp e, List.append_nil] at h
      exact h.now s rx
  · exact h.elim
theorem k_sub : Keeps2 c W (rI0 fun i j => .int (i - j)) opSub := by
  intro σ ρ g F H x y dx dy Q s rx ry h
  unfold opSub at h
  split at h
  · cases rx.int; cases ry.int
    exact ⟨_, _, rfl, rfl, h.now s rInt⟩
  · exact h.elim
def rMulA : R2 := fun x y H Q => rI CMul (fun i j => .int (i * j)) x y H Q ∨ rI CMulW (fun i j => .int (i * j)) x y H Q ∨ rRep x y H Q
theorem op_mulA : OpR X (binaryOp .Mult) rMulA := op_mul.or (op_mulW.or op_rep)
theorem k_mul : Keeps2 c W rMulA opMul := by
  intro σ ρ g F H x y dx dy Q s rx ry h
  unfold opMul at h
  split at h
  · cases rx.int; cases ry.int
    obtain ⟨h1, h⟩ := h.ite
    rcases h1 with h1 | h1 | h1
    · exact .inl ⟨_, _, rfl, rfl, .inl h1, h.now s rInt⟩
    · exact .inl ⟨_, _, rfl, rfl, .inr h1, h.now s rInt⟩
    · exact .inr (.inl ⟨_, _, rfl, rfl, h1, h.now s rInt⟩)
  · obtain ⟨a, vs, rfl, h1, h2⟩ := rx.list
    cases ry.int
    obtain ⟨⟨hl1, hl2, hl3⟩, h⟩ := h.ite
    have hl1' : _ ≤ (1000000 : Int) := hl1
    exact .inr (.inr ⟨a, _, vs, rfl, rfl, s.fh _ _ h1, by omega, by omega, lim_ok (by rw [h2.len]; exact hl3), fun p n => h.newList s n (h2.rep _)⟩)
  · exact h.elim
def rDivA : R2 := fun x y H Q => rI CDivN (fun i j => .int (i.fdiv j)) x y H Q ∨ rI CDivW (fun i j => .int (i / j)) x y H Q
theorem op_divA : OpR X (binaryOp .FloorDiv) rDivA := op_fdivN.or op_fdivW
theorem k_div : Keeps2 c W rDivA opDiv := by
  intro σ ρ g F H x y dx dy Q s rx ry h
  unfold opDiv at h
  split at h
  · cases rx.int; cases ry.int
    obtain ⟨h1, h⟩ := h.ite
    rcases h1 with h1 | h1
    · exact .inl ⟨_, _, rfl, rfl, h1, h.now s rInt⟩
    · refine .inr ⟨_, _, rfl, rfl, h1, ?_⟩
      rw [Int.fdiv_eq_ediv_of_nonneg _ (Int.le_of_lt h1.1)] at h
      exact h.now s rInt
  · exact h.elim
theorem k_mod : Keeps2 c W (rI (fun _ j => j ≠ 0) fun i j => .int (i.fmod j)) opMod := by
  intro σ ρ g F H x y dx dy Q s rx ry h
  unfold opMod at h
  split at h
  · cases rx.int; cases ry.int
    obtain ⟨h1, h⟩ := h.ite
    exact ⟨_, _, rfl, rfl, h1, h.now s rInt⟩
  · exact h.elim
theorem k_pow : Keeps2 c W (rI CPow fun i j => .int (i ^ j.toNat)) opPow := by
  intro σ ρ g F H x y dx dy Q s rx ry h
  unfold opPow at h
  split at h
  · cases rx.int; cases ry.int
    obtain ⟨h1, h⟩ := h.ite
    exact ⟨_, _, rfl, rfl, h1, h.now s rInt⟩
  · exact h.elim
theorem d_add (hK : c.K = X.K) (ha : DE X c W a fa) (hb : DE X c W b fb) : DE X c W (.BinOp a .Add b pos) (eBin opAdd fa fb) := d_bin op_addA (by rw [← hK]; exact k_add) ha hb
theorem d_sub (ha : DE X c W a fa) (hb : DE X c W b fb) : DE X c W (.BinOp a .Sub b pos) (eBin opSub fa fb) := d_bin op_sub k_sub ha hb
theorem d_mul (ha : DE X c W a fa) (hb : DE X c W b fb) : DE X c W (.BinOp a .Mult b pos) (eBin opMul fa fb) := d_bin op_mulA k_mul ha hb
theorem d_div (ha : DE X c W a fa) (hb : DE X c W b fb) : DE X c W (.BinOp a .FloorDiv b pos) (eBin opDiv fa fb) := d_bin op_divA k_div ha hb
theorem d_mod (ha : DE X c W a fa) (hb : DE X c W b fb) : DE X c W (.BinOp a .Mod b pos) (eBin opMod fa fb) := d_bin op_modN k_mod ha hb
theorem d_pow (ha : DE X c W a fa) (hb : DE X c W b fb) : DE X c W (.BinOp a .Pow b pos) (eBin opPow fa fb) := d_bin op_pow k_pow ha hb
def eNeg (fa : EF) : EF := fun ρ g => (fa ρ g).bind fun x g1 => match x with
  | .int i => .ok (.int (-i)) g1
  | _ => .bad
theorem d_neg (ha : DE X c W a fa) : DE X c W (.UnaryOp .USub a pos) (eNeg fa) :=
  PE.imp (pe_un un_neg ha) fun σ H Q ⟨F, ρ, g, s, h⟩ => ⟨F, ρ, g, s, PostG.bind s h fun x g1 v F1 H1 e1 s1 r1 h1 => by
    cases x with
    | int i => cases r1.int; exact ⟨i, rfl, h1.now s1 rInt⟩
    | _ => exact h1.elim⟩
def tVal (fa : EF) : TF := fun ρ g => (fa ρ g).bind fun x g1 => match x with
  | .bool k => .ok k g1
  | _ => .bad
abbrev DC (X : Cx) (c : Ctx) (W : WX) (e : Expr) (f : EF) : Prop := DE X c W e f ∧ DT X c W e (tVal f)
theorem dcE {e : Expr} {f : EF} (h : DC X c W e f) : DE X c W e f := h.1
theorem dcT {e : Expr} {f : EF} (h : DC X c W e f) : DT X c W e (tVal f) := h.2
theorem val_imp {f : EF} {σ : L2.St} {H : Hp} {Q : Bool → Hp → Prop} (w : tT c W (tVal f) σ H Q) : tE c W f σ H fun x H' => ∃ k, x = .bl k ∧ Q k H' := by
  obtain ⟨F, ρ, g, s, h⟩ := w
  exact ⟨F, ρ, g, s, PostG.bind s h fun x g1 v F1 H1 e1 s1 r1 h1 => by
    cases x with
    | bool k => cases r1.bl; exact ⟨k, rfl, h1.now s1 rfl⟩
    | _ => exact h1.elim⟩
variable {cop : CmpOp}
theorem bin_imp {r : R2} {φ : D → D → G → Out D} (hr : Keeps2 c W r φ) {σ : L2.St} {H : Hp} {Q : VK} (w : tE c W (eBin φ fa fb) σ H Q) : tOp r (tE c W fa) (tE c W fb) σ H Q := by
  obtain ⟨F, ρ, g, s, h⟩ := w
  exact ⟨F, ρ, g, s, PostG.bind s h fun x g1 v F1 H1 e1 s1 r1 h1 => ⟨F1, ρ, g1, s1, PostG.bind s1 (o := fb ρ g1) (k := fun y g2 => φ x y g2) h1 fun y g2 u F2 H2 e2 s2 r2 h2 => hr σ ρ g2 F2 H2 v u x y Q s2 (r1.mono e2.f) r2 h2⟩⟩
theorem d_cmp {r : R2} {φ : D → D → G → Out D} (ho : OpR X (compareOp cop) r) (hr : Keeps2 c W r φ) (ha : DE X c W a fa) (hb : DE X c W b fb) (hm : behindInMarks cop b = false) : DC X c W (.Compare a [cop] [b] pos) (eBin φ fa fb) :=
  ⟨PE.imp (pe_cmpR ho ha hb hm) fun σ H Q w => bin_imp hr w, PT.imp (pt_cmpR ho ha hb hm) fun σ H Q w => bin_imp hr (val_imp w)⟩
def opI (p : Int → Int → Bool) (x y : D) (g : G) : Out D := match x, y with
  | .int i, .int j => .ok (.bool (p i j)) g
  | _, _ => .bad
theorem k_opI (p : Int → Int → Bool) : Keeps2 c W (rI0 fun i j => .bl (p i j)) (opI p) := by
  intro σ ρ g F H x y dx dy Q s rx ry h
  unfold opI at h
  split at h
  · cases rx.int; cases ry.int
    exact ⟨_, _, rfl, rfl, h.now s rBl⟩
  · exact h.elim
abbrev opLt := opI fun i j => decide (i < j)
abbrev opLe := opI fun i j => decide (i ≤ j)
abbrev opGt := opI fun i j => decide (j < i)
abbrev opGe := opI fun i j => decide (j ≤ i)
theorem d_lt (ha : DE X c W a fa) (hb : DE X c W b fb) : DC X c W (.Compare a [.Lt] [b] pos) (eBin opLt fa fb) := d_cmp op_lt (k_opI _) ha hb (nomark _)
theorem d_le (ha : DE X c W a fa) (hb : DE X c W b fb) : DC X c W (.Compare a [.LtE] [b] pos) (eBin opLe fa fb) := d_cmp op_le (k_opI _) ha hb (nomark _)
theorem d_gt (ha : DE X c W a fa) (hb : DE X c W b fb) : DC X c W (.Compare a [.Gt] [b] pos) (eBin opGt fa fb) := d_cmp op_gt (k_opI _) ha hb (nomark _)
theorem d_ge (ha : DE X c W a fa) (hb : DE X c W b fb) : DC X c W (.Compare a [.GtE] [b] pos) (eBin opGe fa fb) := d_cmp op_ge (k_opI _) ha hb (nomark _)
def shp (d : D) : Bool := SeqAt.shaped d
def opEq (x y : D) (g : G) : Out D := if shp x = true ∧ shp y = true then .ok (.bool (PyData.eqv x y)) g else .bad
def opNe (x y : D) (g : G) : Out D := if shp x = true ∧ shp y = true then .ok (.bool (!PyData.eqv x y)) g else .bad
theorem shp_tok {d : D} (h : shp d = true) : isDic d = false := by
  cases d with
  | dict ps => cases h
  | _ => rfl
theorem k_eq : Keeps2 c W (rEqD c.K) opEq := by
  intro σ ρ g F H x y dx dy Q s rx ry h
  obtain ⟨⟨h1, h2⟩, h⟩ := h.ite
  exact ⟨dx, dy, Rq_dp _ _ (Rq_mono s.fh _ _ (rx.rq (shp_tok h1))), Rq_dp _ _ (Rq_mono s.fh _ _ (ry.rq (shp_tok h2))), h1, h2, h.now s rBl⟩
theorem k_ne : Keeps2 c W (rNeD c.K) opNe := by
  intro σ ρ g F H x y dx dy Q s rx ry h
  obtain ⟨⟨h1, h2⟩, h⟩ := h.ite
  exact ⟨dx, dy, Rq_dp _ _ (Rq_mono s.fh _ _ (rx.rq (shp_tok h1))), Rq_dp _ _ (Rq_mono s.fh _ _ (ry.rq (shp_tok h2))), h1, h2, h.now s rBl⟩
theorem hu65 {A : Around} {k : Nat} (hr : Room k A) : A.units + 65 < cLine := by have := hr.un; omega
theorem d_eq (hK : c.K = X.K) (hu : X.A.units + 65 < cLine) (ha : DE X c W a fa) (hb : DE X c W b fb) : DC X c W (.Compare a [.Eq] [b] pos) (eBin opEq fa fb) := d_cmp (op_eqD (by omega)) (by rw [← hK]; exact k_eq) ha hb (nomark _)
theorem d_ne (hK : c.K = X.K) (hu : X.A.units + 65 < cLine) (ha : DE X c W a fa) (hb : DE X c W b fb) : DC X c W (.Compare a [.NotEq] [b] pos) (eBin opNe fa fb) := d_cmp (op_neD (by omega)) (by rw [← hK]; exact k_ne) ha hb (nomark _)
def isNon : D → Bool
  | .none => true
  | _ => false
def isD (x : D) : Bool := match x with
  | .none => true
  | .bool _ | .int _ | .str _ | .list _ | .tuple _ => true
  | .dict _ => false
theorem rep_non {c : Ctx} {F : Hp} {v : V} {d : D} (r : Rep c F v d) : decide (v = .non) = isNon d := by
  rcases r with r | ⟨⟨rfl, rfl⟩ | r, _⟩
  · cases r <;> rfl
  · rfl
  · cases r <;> rfl
def eIsN (fa : EF) : EF := fun ρ g => (fa ρ g).bind fun x g1 => .ok (.bool (isNon x)) g1
def eNotN (fa : EF) : EF := fun ρ g => (fa ρ g).bind fun x g1 => .ok (.bool (!isNon x)) g1
theorem d_isN {j pos'} (ha : DE X c W a fa) : DC X c W (.Compare a [.Is] [.Constant .none j pos'] pos) (eIsN fa) :=
  have im : ∀ {σ : L2.St} {H : Hp} {Q : VK}, tE c W (eIsN fa) σ H Q → tIsN (tE c W fa) σ H Q := fun {σ H Q} ⟨F, ρ, g, s, h⟩ => ⟨F, ρ, g, s, PostG.bind s h fun x g1 v F1 H1 e1 s1 r1 h1 => by rw [rep_non r1]; exact h1.now s1 rBl⟩
  ⟨PE.imp (pe_cmp (pc_isN ha) rfl) fun σ H Q w => im w, PT.imp (pt_cmp (pc_isN ha) rfl) fun σ H Q w => im (val_imp w)⟩
theorem d_notN {j pos'} (ha : DE X c W a fa) : DC X c W (.Compare a [.IsNot] [.Constant .none j pos'] pos) (eNotN fa) :=
  have im : ∀ {σ : L2.St} {H : Hp} {Q : VK}, tE c W (eNotN fa) σ H Q → tNotN (tE c W fa) σ H Q := fun {σ H Q} ⟨F, ρ, g, s, h⟩ => ⟨F, ρ, g, s, PostG.bind s h fun x g1 v F1 H1 e1 s1 r1 h1 => by rw [rep_non r1]; exact h1.now s1 rBl⟩
  ⟨PE.imp (pe_cmp (pc_notN ha) rfl) fun σ H Q w => im w, PT.imp (pt_cmp (pc_notN ha) rfl) fun σ H Q w => im (val_imp w)⟩
def opIsB (x y : D) (g : G) : Out D := match x, y with
  | .bool i, .bool j => .ok (.bool (decide (i = j))) g
  | _, _ => .bad
def opNotB (x y : D) (g : G) : Out D := match x, y with
  | .bool i, .bool j => .ok (.bool (!decide (i = j))) g
  | _, _ => .bad
theorem d_isB (ha : DE X c W a fa) (hb : DE X c W b fb) : DC X c W (.Compare a [.Is] [b] pos) (eBin opIsB fa fb) := d_cmp op_isBl (fun σ ρ g F H x y dx dy Q s rx ry h => by
  unfold opIsB at h
  split at h
  · cases rx.bl; cases ry.bl
    exact ⟨_, _, rfl, rfl, h.now s rBl⟩
  · exact h.elim) ha hb (nomark _)
theorem d_notB (ha : DE X c W a fa) (hb : DE X c W b fb) : DC X c W (.Compare a [.IsNot] [b] pos) (eBin opNotB fa fb) := d_cmp op_notBl (fun σ ρ g F H x y dx dy Q s rx ry h => by
  unfold opNotB at h
  split at h
  · cases rx.bl; cases ry.bl
    exact ⟨_, _, rfl, rfl, h.now s rBl⟩
  · exact h.elim) ha hb (nomark _)
def eChain (p q : Int → Int → Bool) (fa fb fc : EF) : EF := fun ρ g => (fa ρ g).bind fun x g1 => (fb ρ g1).bind fun y g2 => match x, y with
  | .int i, .int j => if p i j = true then (fc ρ g2).bind fun z g3 => match z with
      | .int k => .ok (.bool (q j k)) g3
      | _ => .bad
    else .ok (.bool false) g2
  | _, _ => .bad
theorem chain_imp {fc : EF} {p q : Int → Int → Bool} {σ : L2.St} {H : Hp} {Q : VK} (w : tE c W (eChain p q fa fb fc) σ H Q) : tChain (rI0 fun i j => .bl (p i j)) (rI0 fun i j => .bl (q i j)) (tE c W fa) (tE c W fb) (tE c W fc) σ H Q := by
  obtain ⟨F, ρ, g, s, h⟩ := w
  exact ⟨F, ρ, g, s, PostG.bind s h fun x g1 v F1 H1 e1 s1 r1 h1 => ⟨F1, ρ, g1, s1, PostG.bind s1 h1 fun y g2 u F2 H2 e2 s2 r2 h2 => by
    split at h2
    · cases (r1.mono e2.f).int; cases r2.int
      refine ⟨_, _, rfl, rfl, _, rfl, ?_⟩
      split
      · rename_i i j hp
        rw [if_pos hp] at h2
        refine ⟨F2, ρ, g2, s2, PostG.bind s2 h2 fun z g3 w F3 H3 e3 s3 r3 h3 => ?_⟩
        cases z with
        | int k => cases r3.int; exact ⟨_, _, rfl, rfl, h3.now s3 rBl⟩
        | _ => exact h3.elim
      · rename_i i j hp
        rw [if_neg hp] at h2
        exact h2.now s2 rBl
    · exact h2.elim⟩⟩
theorem d_chain {cop' : CmpOp} {e3 : Expr} {fc : EF} {p q : Int → Int → Bool} (ho : OpR X (compareOp cop) (rI0 fun i j => .bl (p i j))) (ho' : OpR X (compareOp cop') (rI0 fun i j => .bl (q i j))) (ha : DE X c W a fa) (hb : DE X c W b fb) (hc : DE X c W e3 fc)
    (h1 : lastMarks [cop, cop'] [b, e3] = false := by rfl) : DC X c W (.Compare a [cop, cop'] [b, e3] pos) (eChain p q fa fb fc) :=
  ⟨PE.imp (pe_chain ho ho' ha hb hc h1) fun σ H Q w => chain_imp w, PT.imp (pt_chain ho ho' ha hb hc h1) fun σ H Q w => chain_imp (val_imp w)⟩
variable {rest : List Expr} {tA tB : TF}
abbrev DW (X : Cx) (c : Ctx) (W : WX) (e : Expr) (f : TF) : Prop := PW X e (tT c W f)
def tAndF (fa fb : TF) : TF := fun ρ g => (fa ρ g).bind fun k g1 => if k = true then fb ρ g1 else .ok false g1
def tOrF (fa fb : TF) : TF := fun ρ g => (fa ρ g).bind fun k g1 => if k = true then .ok true g1 else fb ρ g1
def tNotF (fa : TF) : TF := fun ρ g => (fa ρ g).bind fun k g1 => .ok (!k) g1
def truD : D → Option Bool
  | .none => some false
  | .bool k => some k
  | .int i => some (i != 0)
  | .list xs => some (!xs.isEmpty)
  | .tuple xs => some (!xs.isEmpty)
  | .str x => if x.length ≤ LIM then some ((x.length : Int) != 0) else none
  | .dict _ => none
def tTru (fa : EF) : TF := fun ρ g => (fa ρ g).bind fun x g1 => match truD x with
  | some k => .ok k g1
  | none => .bad
theorem dt_val (ha : DE X c W a fa) (he : ∀ whole, isTrue a X.env whole = (do let v ← whole; standAt a.pos; holding [v] (truthy v)) := by intro _; rfl) : DT X c W a (tVal fa) :=
  PT.imp (pt_val ha he) fun σ H Q ⟨F, ρ, g, s, h⟩ => ⟨F, ρ, g, s, PostG.bind s h fun x g1 v F1 H1 e1 s1 r1 h1 => by
    cases x with
    | bool k => cases r1.bl; exact ⟨k, rfl, h1.now s1 rfl⟩
    | _ => exact h1.elim⟩
theorem isEmpty_rq {K : PySem.W.Frag} {F : Hp} {vs : List V} {ds : List D} (h : RqAll K F vs ds) : (!vs.isEmpty) = !ds.isEmpty := by cases h <;> rfl
theorem dt_tru (hK : c.K = X.K) (ha : DE X c W a fa) (he : ∀ whole, isTrue a X.env whole = (do let v ← whole; standAt a.pos; holding [v] (truthy v)) := by intro _; rfl) : DT X c W a (tTru fa) :=
  PT.imp (pt_truth ha he) fun σ H Q ⟨F, ρ, g, s, h⟩ => ⟨F, ρ, g, s, PostG.bind s h fun x g1 v F1 H1 e1 s1 r1 h1 => by
    cases x with
    | none => cases r1.non; exact ⟨_, rfl, h1.now s1 rfl⟩
    | bool k => cases r1.bl; exact ⟨_, rfl, h1.now s1 rfl⟩
    | int i => cases r1.int; exact ⟨_, rfl, h1.now s1 rfl⟩
    | list xs =>
      obtain ⟨p, vs, rfl, q1, q2⟩ := r1.list
      exact ⟨_, .inl ⟨vs, SqL.of (s1.fh _ _ q1), rfl⟩, h1.now s1 (isEmpty_rq q2)⟩
    | tuple xs =>
      obtain ⟨p, vs, rfl, q1, q2⟩ := r1.tuple
      exact ⟨_, .inr (.inl ⟨vs, by rw [← hK]; exact seqT_mono s1.fh q1, rfl⟩), h1.now s1 (isEmpty_rq q2)⟩
    | str x =>
      cases r1.str
      by_cases hl : x.length ≤ LIM
      · simp only [truD, if_pos hl] at h1
        exact ⟨_, ⟨lim_ok hl, rfl⟩, h1.now s1 rfl⟩
      · simp only [truD, if_neg hl] at h1
        exact h1.elim
    | dict _ => exact h1.elim⟩
theorem dw_and1 (ha : DT X c W a tA) : DW X c W (.BoolOp .And [a] pos) tA := pw_and1 ha
theorem dw_or1 (ha : DT X c W a tA) : DW X c W (.BoolOp .Or [a] pos) tA := pw_or1 ha
theorem dw_and (ha : DT X c W a tA) (hb : DW X c W (.BoolOp .And (b :: rest) pos) tB) : DW X c W (.BoolOp .And (a :: b :: rest) pos) (tAndF tA tB) :=
  PW.imp (pw_and ha hb) fun σ H Q ⟨F, ρ, g, s, h⟩ => ⟨F, ρ, g, s, PostG.bind s h fun k g1 v F1 H1 e1 s1 r1 h1 => by
    cases r1
    cases k with
    | true => exact ⟨F1, ρ, g1, s1, h1⟩
    | false => exact h1.now s1 rfl⟩
theorem dw_or (ha : DT X c W a tA) (hb : DW X c W (.BoolOp .Or (b :: rest) pos) tB) : DW X c W (.BoolOp .Or (a :: b :: rest) pos) (tOrF tA tB) :=
  PW.imp (pw_or ha hb) fun σ H Q ⟨F, ρ, g, s, h⟩ => ⟨F, ρ, g, s, PostG.bind s h fun k g1 v F1 H1 e1 s1 r1 h1 => by
    cases r1
    cases k with
    | true => exact h1.now s1 rfl
    | false => exact ⟨F1, ρ, g1, s1, h1⟩⟩
theorem dt_w (h : DW X c W a tA) : DT X c W a tA := PW.pt h
theorem dt_not (ha : DT X c W a tA) : DT X c W (.UnaryOp .Not a pos) (tNotF tA) :=
  PT.imp (pt_not ha) fun σ H Q ⟨F, ρ, g, s, h⟩ => ⟨F, ρ, g, s, PostG.bind s h fun k g1 v F1 H1 e1 s1 r1 h1 => by cases r1; exact h1.now s1 rfl⟩
def eAnd (fa fb : EF) : EF := fun ρ g => (fa ρ g).bind fun x g1 => match x with
  | .bool k => if k = true then fb ρ g1 else .ok (.bool false) g1
  | _ => .bad
def eOr (fa fb : EF) : EF := fun ρ g => (fa ρ g).bind fun x g1 => match x with
  | .bool k => if k = true then .ok (.bool true) g1 else fb ρ g1
  | _ => .bad
def eNot (fa : EF) : EF := fun ρ g => (fa ρ g).bind fun x g1 => match x with
  | .bool k => .ok (.bool (!k)) g1
  | _ => .bad
theorem d_one {bop} (ha : DE X c W a fa) : DE X c W (.BoolOp bop [a] pos) fa := pe_one ha
theorem d_and (ha : DE X c W a fa) (hb : DE X c W (.BoolOp .And (b :: rest) pos) fb) : DE X c W (.BoolOp .And (a :: b :: rest) pos) (eAnd fa fb) :=
  PE.imp (pe_and ha hb) fun σ H Q ⟨F, ρ, g, s, h⟩ => ⟨F, ρ, g, s, PostG.bind s h fun x g1 v F1 H1 e1 s1 r1 h1 => by
    cases x with
    | bool k =>
      cases r1.bl
      refine ⟨k, rfl, ?_⟩
      cases k with
      | true => exact ⟨F1, ρ, g1, s1, h1⟩
      | false => exact h1.now s1 rBl
    | _ => exact h1.elim⟩
theorem d_or (ha : DE X c W a fa) (hb : DE X c W (.BoolOp .Or (b :: rest) pos) fb) : DE X c W (.BoolOp .Or (a :: b :: rest) pos) (eOr fa fb) :=
  PE.imp (pe_or ha hb) fun σ H Q ⟨F, ρ, g, s, h⟩ => ⟨F, ρ, g, s, PostG.bind s h fun x g1 v F1 H1 e1 s1 r1 h1 => by
    cases x with
    | bool k =>
      cases r1.bl
      refine ⟨k, rfl, ?_⟩
      cases k with
      | true => exact h1.now s1 rBl
      | false => exact ⟨F1, ρ, g1, s1, h1⟩
    | _ => exact h1.elim⟩
theorem d_not (ha : DE X c W a fa) : DE X c W (.UnaryOp .Not a pos) (eNot fa) :=
  PE.imp (pe_not ha) fun σ H Q ⟨F, ρ, g, s, h⟩ => ⟨F, ρ, g, s, PostG.bind s h fun x g1 v F1 H1 e1 s1 r1 h1 => by
    cases x with
    | bool k => cases r1.bl; exact ⟨k, rfl, h1.now s1 rBl⟩
    | _ => exact h1.elim⟩
def eIf (t : TF) (fa fb : EF) : EF := fun ρ g => (t ρ g).bind fun k g1 => if k = true then fa ρ g1 else fb ρ g1
theorem d_if {e : Expr} (ht : DT X c W e tA) (ha : DE X c W a fa) (hb : DE X c W b fb) : DE X c W (.IfExp e a b pos) (eIf tA fa fb) :=
  PE.imp (pe_ifExp ht ha hb) fun σ H Q ⟨F, ρ, g, s, h⟩ => ⟨F, ρ, g, s, PostG.bind s h fun k g1 v F1 H1 e1 s1 r1 h1 => by
    cases r1
    cases k with
    | true => exact ⟨F1, ρ, g1, s1, h1⟩
    | false => exact ⟨F1, ρ, g1, s1, h1⟩⟩
variable {es : List Expr} {fs : AF} {e : Expr} {fe : EF}
def aNil : AF := fun _ g => .ok [] g
def aCons (fe : EF) (fs : AF) : AF := fun ρ g => (fe ρ g).bind fun x g1 => (fs ρ g1).bind fun xs g2 => .ok (x :: xs) g2
theorem da_nil : DA X c W [] aNil := PA.imp pa_nil fun σ H Q ⟨F, ρ, g, s, h⟩ => h.now s .nil
theorem da_cons (ha : DE X c W e fe) (hr : DA X c W es fs) (hs : starEach (e :: es) X.env = (false, eval e X.env) :: starEach es X.env := by rfl) : DA X c W (e :: es) (aCons fe fs) :=
  PA.imp (pa_cons ha hr hs) fun σ H Q ⟨F, ρ, g, s, h⟩ => ⟨F, ρ, g, s, PostG.bind s h fun x g1 v F1 H1 e1 s1 r1 h1 => ⟨F1, ρ, g1, s1, PostG.bind s1 h1 fun y g2 u F2 H2 e2 s2 r2 h2 => h2.now s2 (.cons (r1.mono e2.f) r2)⟩⟩
def noTok : List D → Bool
  | [] => true
  | .dict _ :: _ => false
  | _ :: r => noTok r
theorem RepAll.rq {c : Ctx} {F : Hp} : ∀ {vs : List V} {ds : List D}, RepAll c F vs ds → noTok ds = true → RqAll c.K F vs ds
  | _, _, .nil, _ => .nil
  | _, _, .cons (d := d) h t, n => by
    cases d with
    | dict k => cases n
    | none => exact .cons (h.rq rfl) (RepAll.rq t n)
    | bool _ => exact .cons (h.rq rfl) (RepAll.rq t n)
    | int _ => exact .cons (h.rq rfl) (RepAll.rq t n)
    | str _ => exact .cons (h.rq rfl) (RepAll.rq t n)
    | list _ => exact .cons (h.rq rfl) (RepAll.rq t n)
    | tuple _ => exact .cons (h.rq rfl) (RepAll.rq t n)
def eTup (fs : AF) : EF := fun ρ g => (fs ρ g).bind fun xs g1 => if noTok xs = true ∧ xs.length ≤ LIM then .ok (.tuple xs) g1 else .bad
def eLst (fs : AF) : EF := fun ρ g => (fs ρ g).bind fun xs g1 => if noTok xs = true ∧ xs.length ≤ LIM then .ok (.list xs) g1 else .bad
theorem d_tup {x1} (ha : DA X c W es fs) : DE X c W (.Tuple es x1 pos) (eTup fs) :=
  PE.imp (pe_tup ha) fun σ H Q ⟨F, ρ, g, s, h⟩ => ⟨F, ρ, g, s, PostG.bind s h fun xs g1 vs F1 H1 e1 s1 r1 h1 => by
    obtain ⟨⟨h2, h3⟩, h1⟩ := h1.ite
    exact ⟨lim_ok (by rw [r1.length]; exact h3), fun p n => h1.newTup s1 n (r1.rq h2)⟩⟩
theorem d_lst (ha : DA X c W es fs) : DE X c W (.List es pos) (eLst fs) :=
  PE.imp (pe_lst ha) fun σ H Q ⟨F, ρ, g, s, h⟩ => ⟨F, ρ, g, s, PostG.bind s h fun xs g1 vs F1 H1 e1 s1 r1 h1 => by
    obtain ⟨⟨h2, h3⟩, h1⟩ := h1.ite
    exact ⟨lim_ok (by rw [r1.length]; exact h3), fun p n => h1.newList s1 n (r1.rq h2)⟩⟩
def opIx (x y : D) (g : G) : Out D := match x, y with
  | .list xs, .int i => match atI xs i with
    | some d => .ok d g
    | none => .bad
  | .tuple xs, .int i => match atI xs i with
    | some d => .ok d g
    | none => .bad
  | .str z, .int i => if z.length ≤ LIM then (match atI z.cps.toList i with
    | some d => .ok (.str ⟨#[d]⟩) g
    | none => .bad) else .bad
  | _, _ => .bad
theorem atI_rq {K : PySem.W.Frag} {F : Hp} {vs : List V} {ds : List D} {i : Int} {d : D} (h : RqAll K F vs ds) (e : atI ds i = some d) : ∃ v, atI vs i = some v ∧ Rq K F v d := by
  unfold atI at e ⊢
  rw [h.len]
  cases q : ixN ds.length i with
  | none => rw [q] at e; cases e
  | some j =>
    rw [q] at e
    obtain ⟨v, h1, h2⟩ := h.get (i := j) (d := d) e
    exact ⟨v, h1, h2⟩
theorem d_ix (hK : c.K = X.K) (ha : DE X c W a fa) (hb : DE X c W b fb) (hs : PlainIx b := by intro _ _; rfl) : DE X c W (.Subscript a b pos) (eBin opIx fa fb) :=
  PE.imp (pe_ix ix_seq ha hb hs) fun σ H Q ⟨F, ρ, g, s, h⟩ => ⟨F, ρ, g, s, PostG.bind s h fun x g1 v F1 H1 e1 s1 r1 h1 => ⟨F1, ρ, g1, s1, PostG.bind s1 (o := fb ρ g1) (k := fun y g2 => opIx x y g2) h1 fun y g2 u F2 H2 e2 s2 r2 h2 => by
    unfold opIx at h2
    split at h2
    · obtain ⟨p, vs, rfl, q1, q2⟩ := (r1.mono e2.f).list
      cases r2.int
      split at h2
      · rename_i d hd
        obtain ⟨v, hv, rv⟩ := atI_rq q2 hd
        exact .inl ⟨p, vs, _, v, rfl, rfl, SqL.of (s2.fh _ _ q1), hv, h2.now s2 (.inl rv)⟩
      · exact h2.elim
    · obtain ⟨p, vs, rfl, q1, q2⟩ := (r1.mono e2.f).tuple
      cases r2.int
      split at h2
      · rename_i d hd
        obtain ⟨v, hv, rv⟩ := atI_rq q2 hd
        exact .inr (.inl ⟨p, vs, _, v, rfl, rfl, by rw [← hK]; exact seqT_mono s2.fh q1, hv, h2.now s2 (.inl rv)⟩)
      · exact h2.elim
    · cases r1.str
      cases r2.int
      obtain ⟨hz, h2⟩ := h2.ite
      split at h2
      · rename_i d hd
        exact .inr (.inr ⟨_, _, d, rfl, rfl, lim_ok hz, hd, h2.now s2 rStr⟩)
      · exact h2.elim
    · exact h2.elim⟩⟩
abbrev OF := RS → G → Out (Option Int)
def RO : Hp → Option Int → Option Int → Prop := fun _ a b => a = b
def tOf (c : Ctx) (W : WX) (f : OF) : TO := fun σ H Q => ∃ F ρ g, SR c F H σ ρ g ∧ PostG c σ RO (f ρ g) F H W Q
abbrev DO (X : Cx) (c : Ctx) (W : WX) (e : Option Expr) (f : OF) : Prop := PO X e (tOf c W f)
theorem PO.imp {X : Cx} {e : Option Expr} {t t' : TO} (h : PO X e t) (q : ∀ σ H Q, t' σ H Q → t σ H Q) : PO X e t' := by
  obtain ⟨h1⟩ := h
  constructor
  intros
  apply h1 <;> first | assumption | (apply q; assumption)
def oNone : OF := fun _ g => .ok none g
def oSome (fe : EF) : OF := fun ρ g => (fe ρ g).bind fun x g1 => match x with
  | .int i => .ok (some i) g1
  | _ => .bad
theorem do_none : DO X c W none oNone := PO.imp po_none fun σ H Q ⟨F, ρ, g, s, h⟩ => h.now s rfl
theorem do_some (ha : DE X c W e fe) : DO X c W (some e) (oSome fe) := PO.imp (po_some ha) fun σ H Q ⟨F, ρ, g, s, h⟩ => ⟨F, ρ, g, s, PostG.bind s h fun x g1 v F1 H1 e1 s1 r1 h1 => by
  cases x with
  | int i => cases r1.int; exact ⟨i, rfl, h1.now s1 rfl⟩
  | _ => exact h1.elim⟩
def cutD (ds : List D) (lo hi : Option Int) : List D := (ds.drop (HT.sIx ds.length 0 lo)).take (HT.sIx ds.length ds.length hi - HT.sIx ds.length 0 lo)
theorem cut_rq {K : PySem.W.Frag} {F : Hp} {vs : List V} {ds : List D} (h : RqAll K F vs ds) (lo hi : Option Int) : RqAll K F (cutV vs lo hi) (cutD ds lo hi) := by
  unfold cutV cutD
  rw [h.len]
  exact (h.drop _).take _
def eSl (fa : EF) (fl fh : OF) : EF := fun ρ g => (fa ρ g).bind fun x g1 => (fl ρ g1).bind fun lo g2 => (fh ρ g2).bind fun hi g3 => match x with
  | .list xs => .ok (.list (cutD xs lo hi)) g3
  | .tuple xs => .ok (.tuple (cutD xs lo hi)) g3
  | _ => .bad
theorem cut_whole (ds : List D) (lo hi : Option Int) (h : HT.sIx ds.length 0 lo = 0 ∧ HT.sIx ds.length ds.length hi = ds.length) : cutD ds lo hi = ds := by
  unfold cutD
  rw [h.1, h.2, List.drop_zero, Nat.sub_zero, List.take_length]
theorem d_sl {lo hi : Option Expr} {fl fh : OF} {p2 : Pos} (hK : c.K = X.K) (ha : DE X c W a fa) (hl : DO X c W lo fl) (hh : DO X c W hi fh) : DE X c W (.Subscript a (.Slice lo hi none p2) pos) (eSl fa fl fh) :=
  PE.imp (pe_slice (sl_list.or sl_tupA) ha hl hh) fun σ H Q ⟨F, ρ, g, s, h⟩ => ⟨F, ρ, g, s, PostG.bind s h fun x g1 v F1 H1 e1 s1 r1 h1 => ⟨F1, ρ, g1, s1, PostG.bind s1 h1 fun l g2 u F2 H2 e2 s2 r2 h2 => ⟨F2, ρ, g2, s2, PostG.bind s2 h2 fun hv g3 w F3 H3 e3 s3 r3 h3 => by
    cases r2
    cases r3
    cases x with
    | list xs =>
      obtain ⟨p, vs, rfl, q1, q2⟩ := ((r1.mono e2.f).mono e3.f).list
      exact .inl ⟨p, vs, rfl, SqL.of (s3.fh _ _ q1), fun q n => h3.newList s3 n (cut_rq q2 _ _)⟩
    | tuple xs =>
      have rr := (r1.mono e2.f).mono e3.f
      obtain ⟨p, vs, rfl, q1, q2⟩ := rr.tuple
      refine .inr ⟨p, vs, rfl, by rw [← hK]; exact seqT_mono s3.fh q1, fun hw => ?_, fun _ q n => h3.newTup s3 n (cut_rq q2 _ _)⟩
      rw [q2.len] at hw
      have h3 : PostG c σ (Rep c) (.ok (.tuple (cutD xs l hv)) g3) F3 H3 W Q := h3
      rw [cut_whole _ _ _ hw] at h3
      exact h3.now s3 rr
    | _ => exact h3.elim⟩⟩⟩
end
end DL
namespace DL
open PySem
open PySem.Spec
open PyProof.Rows
open L2
def KeepsL (c : Ctx) (W : WX) (r : List V → Hp → VK → Prop) (φ : List D → G → Out D) : Prop := ∀ (σ : L2.St) (ρ : RS) (g : G) (F H : Hp) (vs : List V) (ds : List D) (Q : VK), SR c F H σ ρ g → RepAll c F vs ds → PostG c σ (Rep c) (φ ds g) F H W Q → r vs H Q
def eCall (φ : List D → G → Out D) (fs : AF) : EF := fun ρ g => (fs ρ g).bind φ
section
variable {X : Cx} {c : Ctx} {W : WX} {pos p : Pos} {x : Str} {e : Expr} {es : List Expr} {fs : AF} {id T : String} {r : List V → Hp → VK → Prop} {φ : List D → G → Out D}
theorem d_callB (hc : CallR X (.builtin id) r) (hr : KeepsL c W r φ) (hg : Gl X x) (hm : X.mg x = none) (hv : bootBuiltins x = some (.builtin id)) (ha : DA X c W (e :: es) fs) (hn : x ≠ "__name__" := by decide) (hdb : (x == ("__debug__" : Str)) = false := by decide)
    (he : starEach (e :: es) X.env = (false, eval e X.env) :: starEach es X.env := by rfl) (hpl : (backTo pos (starEach es X.env)).any (·.1) = false := by rfl) : DE X c W (.Call (.Name x p) (e :: es) [] pos) (eCall φ fs) :=
  PE.imp (pe_callB hc hg hm hv ha hn hdb he hpl) fun σ H Q ⟨F, ρ, g, s, h⟩ => ⟨F, ρ, g, s, PostG.bind s h fun ds g1 vs F1 H1 e1 s1 r1 h1 => hr σ ρ g1 F1 H1 vs ds Q s1 r1 h1⟩
theorem d_callT (hc : CallR X (.type T) r) (hr : KeepsL c W r φ) (hg : Gl X x) (hm : X.mg x = none) (hv : bootBuiltins x = some (.type T)) (ha : DA X c W (e :: es) fs) (hn : x ≠ "__name__" := by decide) (hdb : (x == ("__debug__" : Str)) = false := by decide)
    (he : starEach (e :: es) X.env = (false, eval e X.env) :: starEach es X.env := by rfl) (hpl : (backTo pos (starEach es X.env)).any (·.1) = false := by rfl) : DE X c W (.Call (.Name x p) (e :: es) [] pos) (eCall φ fs) :=
  PE.imp (pe_callTy hc hg hm hv ha hn hdb he hpl) fun σ H Q ⟨F, ρ, g, s, h⟩ => ⟨F, ρ, g, s, PostG.bind s h fun ds g1 vs F1 H1 e1 s1 r1 h1 => hr σ ρ g1 F1 H1 vs ds Q s1 r1 h1⟩
end
theorem rep1 {c : Ctx} {F : Hp} {vs : List V} {d : D} (h : RepAll c F vs [d]) : ∃ v, vs = [v] ∧ Rep c F v d := by
  cases h with
  | cons h t => cases t; exact ⟨_, rfl, h⟩
theorem rep2 {c : Ctx} {F : Hp} {vs : List V} {d d' : D} (h : RepAll c F vs [d, d']) : ∃ v v', vs = [v, v'] ∧ Rep c F v d ∧ Rep c F v' d' := by
  cases h with
  | cons h t => cases t with
    | cons h' t => cases t; exact ⟨_, _, rfl, h, h'⟩
def asInts : List D → Option (List Int)
  | [] => some []
  | .int i :: r => (asInts r).map (i :: ·)
  | _ :: _ => none
def asBools : List D → Option (List Bool)
  | [] => some []
  | .bool i :: r => (asBools r).map (i :: ·)
  | _ :: _ => none
theorem asInts_map : ∀ ns : List Int, asInts (ns.map PyData.int) = some ns
  | [] => rfl
  | n :: ns => by rw [List.map_cons, asInts, asInts_map ns]; rfl
theorem asBools_map : ∀ ns : List Bool, asBools (ns.map PyData.bool) = some ns
  | [] => rfl
  | n :: ns => by rw [List.map_cons, asBools, asBools_map ns]; rfl
theorem asInts_of : ∀ {ds : List D} {ns : List Int}, asInts ds = some ns → ds = ns.map PyData.int
  | [], ns, h => by cases h; rfl
  | .int i :: r, ns, h => by
    rw [asInts] at h
    cases q : asInts r with
    | none => rw [q] at h; cases h
    | some m => rw [q] at h; cases h; rw [List.map_cons, asInts_of q]
  | .none :: _, _, h => by cases h
  | .bool _ :: _, _, h => by cases h
  | .str _ :: _, _, h => by cases h
  | .list _ :: _, _, h => by cases h
  | .tuple _ :: _, _, h => by cases h
  | .dict _ :: _, _, h => by cases h
theorem asBools_of : ∀ {ds : List D} {ns : List Bool}, asBools ds = some ns → ds = ns.map PyData.bool
  | [], ns, h => by cases h; rfl
  | .bool i :: r, ns, h => by
    rw [asBools] at h
    cases q : asBools r with
    | none => rw [q] at h; cases h
    | some m => rw [q] at h; cases h; rw [List.map_cons, asBools_of q]
  | .none :: _, _, h => by cases h
  | .int _ :: _, _, h => by cases h
  | .str _ :: _, _, h => by cases h
  | .list _ :: _, _, h => by cases h
  | .tuple _ :: _, _, h => by cases h
  | .dict _ :: _, _, h => by cases h
def bLen (ds : List D) (g : G) : Out D := match ds with
  | [.list xs] => .ok (.int xs.length) g
  | [.tuple xs] => .ok (.int xs.length) g
  | [.str z] => if z.length ≤ LIM then .ok (.int z.length) g else .bad
  | _ => .bad
def bAbs (ds : List D) (g : G) : Out D := match ds with
  | [.int i] => .ok (.int (if i < 0 then -i else i)) g
  | _ => .bad
def bInt (ds : List D) (g : G) : Out D := match ds with
  | [.int i] => .ok (.int i) g
  | [.bool k] => .ok (.int (if k then 1 else 0)) g
  | _ => .bad
def bSum (ds : List D) (g : G) : Out D := match ds with
  | [.list xs] => match asInts xs with
    | some ns => .ok (.int ns.sum) g
    | none => .bad
  | _ => .bad
def bAny (ds : List D) (g : G) : Out D := match ds with
  | [.list xs] => match asBools xs with
    | some ns => .ok (.bool (ns.any id)) g
    | none => .bad
  | _ => .bad
def bAll (ds : List D) (g : G) : Out D := match ds with
  | [.list xs] => match asBools xs with
    | some ns => .ok (.bool (ns.all id)) g
    | none => .bad
  | _ => .bad
def sortI (ns : List Int) : List Int := ns.mergeSort (fun a b => decide (a ≤ b))
def bSorted (ds : List D) (g : G) : Out D := match ds with
  | [.list xs] => match asInts xs with
    | some ns => .ok (.list ((sortI ns).map PyData.int)) g
    | none => .bad
  | _ => .bad
def bTuple (ds : List D) (g : G) : Out D := match ds with
  | [.list xs] => .ok (.tuple xs) g
  | [.tuple xs] => .ok (.tuple xs) g
  | _ => .bad
def bList (ds : List D) (g : G) : Out D := match ds with
  | [.list xs] => .ok (.list xs) g
  | [.tuple xs] => .ok (.list xs) g
  | _ => .bad
def bMax2 (ds : List D) (g : G) : Out D := match ds with
  | [.int i, .int j] => .ok (.int (if j > i then j else i)) g
  | _ => .bad
def bMin2 (ds : List D) (g : G) : Out D := match ds with
  | [.int i, .int j] => .ok (.int (if j < i then j else i)) g
  | _ => .bad
def maxL : Int → List Int → Int
  | m, [] => m
  | m, x :: r => maxL (if x > m then x else m) r
def minL : Int → List Int → Int
  | m, [] => m
  | m, x :: r => minL (if x < m then x else m) r
theorem maxL_spec : ∀ (r : List Int) (m : Int), (maxL m r = m ∨ maxL m r ∈ r) ∧ m ≤ maxL m r ∧ ∀ y ∈ r, y ≤ maxL m r
  | [], m => ⟨.inl rfl, Int.le_refl _, fun _ h => by cases h⟩
  | x :: r, m => by
    obtain ⟨h1, h2, h3⟩ := maxL_spec r (if x > m then x else m)
    have hm : m ≤ (if x > m then x else m) ∧ x ≤ (if x > m then x else m) := by split <;> omega
    refine ⟨?_, Int.le_trans hm.1 h2, fun y hy => ?_⟩
    · rcases h1 with h1 | h1
      · show maxL (if x > m then x else m) r = m ∨ maxL (if x > m then x else m) r ∈ x :: r
        rw [h1]
        split
        · exact .inr List.mem_cons_self
        · exact .inl rfl
      · exact .inr (List.mem_cons_of_mem _ h1)
    · rcases List.mem_cons.mp hy with rfl | hy
      · exact Int.le_trans hm.2 h2
      · exact h3 y hy
theorem minL_spec : ∀ (r : List Int) (m : Int), (minL m r = m ∨ minL m r ∈ r) ∧ minL m r ≤ m ∧ ∀ y ∈ r, minL m r ≤ y
  | [], m => ⟨.inl rfl, Int.le_refl _, fun _ h => by cases h⟩
  | x :: r, m => by
    obtain ⟨h1, h2, h3⟩ := minL_spec r (if x < m then x else m)
    have hm : (if x < m then x else m) ≤ m ∧ (if x < m then x else m) ≤ x := by split <;> omega
    refine ⟨?_, Int.le_trans h2 hm.1, fun y hy => ?_⟩
    · rcases h1 with h1 | h1
      · show minL (if x < m then x else m) r = m ∨ minL (if x < m then x else m) r ∈ x :: r
        rw [h1]
        split
        · exact .inr List.mem_cons_self
        · exact .inl rfl
      · exact .inr (List.mem_cons_of_mem _ h1)
    · rcases List.mem_cons.mp hy with rfl | hy
      · exact Int.le_trans h2 hm.2
      · exact h3 y hy
def bMax (ds : List D) (g : G) : Out D := match ds with
  | [.list xs] => match asInts xs with
    | some (n :: ns) => .ok (.int (maxL n ns)) g
    | _ => .bad
  | _ => .bad
def bMin (ds : List D) (g : G) : Out D := match ds with
  | [.list xs] => match asInts xs with
    | some (n :: ns) => .ok (.int (minL n ns)) g
    | _ => .bad
  | _ => .bad
section
variable {X : Cx} {c : Ctx} {W : WX}
theorem Rep.ints {c : Ctx} {F : Hp} {v : V} {ns : List Int} (h : Rep c F v (.list (ns.map PyData.int))) : ∃ a, v = .ref a ∧ F a = some (.lst (ns.map V.int)) := by
  obtain ⟨a, vs, rfl, h1, h2⟩ := h.list
  rw [h2.ints] at h1
  exact ⟨a, rfl, h1⟩
theorem Rep.bls {c : Ctx} {F : Hp} {v : V} {ns : List Bool} (h : Rep c F v (.list (ns.map PyData.bool))) : ∃ a, v = .ref a ∧ F a = some (.lst (ns.map V.bl)) := by
  obtain ⟨a, vs, rfl, h1, h2⟩ := h.list
  rw [h2.bls] at h1
  exact ⟨a, rfl, h1⟩
theorem kl_len : KeepsL c W (fun xs H Q => ∃ x n, xs = [x] ∧ LenV c.K x H n ∧ Q (.int n) H) bLen := by
  intro σ ρ g F H vs ds Q s r h
  unfold bLen at h
  split at h
  · obtain ⟨v, rfl, rv⟩ := rep1 r
    obtain ⟨a, vs, rfl, h1, h2⟩ := rv.list
    exact ⟨_, _, rfl, .inl ⟨vs, SqL.of (s.fh _ _ h1), h2.len.symm⟩, h.now s rInt⟩
  · obtain ⟨v, rfl, rv⟩ := rep1 r
    obtain ⟨a, vs, rfl, h1, h2⟩ := rv.tuple
    exact ⟨_, _, rfl, .inr ⟨vs, seqT_mono s.fh h1, h2.len.symm⟩, h.now s rInt⟩
  · obtain ⟨v, rfl, rv⟩ := rep1 r
    cases rv.str
    obtain ⟨hl, h⟩ := h.ite
    exact ⟨_, _, rfl, ⟨lim_ok hl, rfl⟩, h.now s rInt⟩
  · exact h.elim
theorem kl_abs : KeepsL c W (fun xs H Q => ∃ i, xs = [.int i] ∧ Q (.int (if i < 0 then -i else i)) H) bAbs := by
  intro σ ρ g F H vs ds Q s r h
  unfold bAbs at h
  split at h
  · obtain ⟨v, rfl, rv⟩ := rep1 r
    cases rv.int
    exact ⟨_, rfl, h.now s rInt⟩
  · exact h.elim
theorem kl_int : KeepsL c W (fun xs H Q => (∃ i, xs = [.int i] ∧ Q (.int i) H) ∨ ∃ k, xs = [.bl k] ∧ Q (.int (if k then 1 else 0)) H) bInt := by
  intro σ ρ g F H vs ds Q s r h
  unfold bInt at h
  split at h
  · obtain ⟨v, rfl, rv⟩ := rep1 r
    cases rv.int
    exact .inl ⟨_, rfl, h.now s rInt⟩
  · obtain ⟨v, rfl, rv⟩ := rep1 r
    cases rv.bl
    exact .inr ⟨_, rfl, h.now s rInt⟩
  · exact h.elim
theorem kl_sum : KeepsL c W (rSum c.K) bSum := by
  intro σ ρ g F H vs ds Q s r h
  unfold bSum at h
  split at h
  · split at h
    · rename_i ns hn
      obtain ⟨v, rfl, rv⟩ := rep1 r
      rw [asInts_of hn] at rv
      obtain ⟨a, rfl, h1⟩ := rv.ints
      exact ⟨a, ns, rfl, SqL.of (s.fh _ _ h1), h.now s rInt⟩
    · exact h.elim
  · exact h.elim
theorem kl_any : KeepsL c W (rAny c.K) bAny := by
  intro σ ρ g F H vs ds Q s r h
  unfold bAny at h
  split at h
  · split at h
    · rename_i ns hn
      obtain ⟨v, rfl, rv⟩ := rep1 r
      rw [asBools_of hn] at rv
      obtain ⟨a, rfl, h1⟩ := rv.bls
      exact ⟨a, ns, rfl, SqL.of (s.fh _ _ h1), h.now s rBl⟩
    · exact h.elim
  · exact h.elim
theorem kl_all : KeepsL c W (rAll c.K) bAll := by
  intro σ ρ g F H vs ds Q s r h
  unfold bAll at h
  split at h
  · split at h
    · rename_i ns hn
      obtain ⟨v, rfl, rv⟩ := rep1 r
      rw [asBools_of hn] at rv
      obtain ⟨a, rfl, h1⟩ := rv.bls
      exact ⟨a, ns, rfl, SqL.of (s.fh _ _ h1), h.now s rBl⟩
    · exact h.elim
  · exact h.elim
theorem sortI_perm (ns : List Int) : (sortI ns).Perm ns := List.mergeSort_perm _ _
theorem sortI_sorted (ns : List Int) : (sortI ns).Pairwise (· ≤ ·) := by
  have h := List.pairwise_mergeSort (le := fun a b : Int => decide (a ≤ b)) (fun a b c h1 h2 => by simp at *; omega) (fun a b => by simp; omega) ns
  exact h.imp fun h => by simpa using h
theorem sortI_uniq {ns ms : List Int} (h : ms.Perm ns) (o : ms.Pairwise (· ≤ ·)) : ms = sortI ns := PySem.W.ksm_same (h.trans (sortI_perm ns).symm) o (sortI_sorted ns)
theorem kl_sorted : KeepsL c W (rSortedI c.K) bSorted := by
  intro σ ρ g F H vs ds Q s r h
  unfold bSorted at h
  split at h
  · split at h
    · rename_i ns hn
      obtain ⟨v, rfl, rv⟩ := rep1 r
      rw [asInts_of hn] at rv
      obtain ⟨a, rfl, h1⟩ := rv.ints
      refine ⟨a, ns, rfl, SqL.of (s.fh _ _ h1), fun ns' p hp ho hn => ?_⟩
      rw [sortI_uniq hp ho]
      exact h.newList s hn (dpInts _)
    · exact h.elim
  · exact h.elim
theorem kl_tuple : KeepsL c W (fun xs H Q => ∃ p ys, xs = [.ref p] ∧ ((SqL c.K H p ys ∧ ∀ l, H l = none → Q (.ref l) (upd H l (.tup ys))) ∨ (SqT c.K H p ys ∧ Q (.ref p) H))) bTuple := by
  intro σ ρ g F H vs ds Q s r h
  unfold bTuple at h
  split at h
  · obtain ⟨v, rfl, rv⟩ := rep1 r
    obtain ⟨a, vs, rfl, h1, h2⟩ := rv.list
    exact ⟨a, vs, rfl, .inl ⟨SqL.of (s.fh _ _ h1), fun p n => h.newTup s n h2⟩⟩
  · obtain ⟨v, rfl, rv⟩ := rep1 r
    obtain ⟨a, vs, rfl, h1, h2⟩ := rv.tuple
    exact ⟨a, vs, rfl, .inr ⟨seqT_mono s.fh h1, h.now s rv⟩⟩
  · exact h.elim
theorem kl_list : KeepsL c W (fun xs H Q => ∃ p ys, xs = [.ref p] ∧ (SqL c.K H p ys ∨ SqT c.K H p ys) ∧ ∀ l, H l = none → Q (.ref l) (upd H l (.lst ys))) bList := by
  intro σ ρ g F H vs ds Q s r h
  unfold bList at h
  split at h
  · obtain ⟨v, rfl, rv⟩ := rep1 r
    obtain ⟨a, vs, rfl, h1, h2⟩ := rv.list
    exact ⟨a, vs, rfl, .inl (SqL.of (s.fh _ _ h1)), fun p n => h.newList s n h2⟩
  · obtain ⟨v, rfl, rv⟩ := rep1 r
    obtain ⟨a, vs, rfl, h1, h2⟩ := rv.tuple
    exact ⟨a, vs, rfl, .inr (seqT_mono s.fh h1), fun p n => h.newList s n h2⟩
  · exact h.elim
theorem kl_max2 : KeepsL c W (fun xs H Q => ∃ i j, xs = [.int i, .int j] ∧ Q (.int (if j > i then j else i)) H) bMax2 := by
  intro σ ρ g F H vs ds Q s r h
  unfold bMax2 at h
  split at h
  · obtain ⟨v, v', rfl, rv, rv'⟩ := rep2 r
    cases rv.int
    cases rv'.int
    exact ⟨_, _, rfl, h.now s rInt⟩
  · exact h.elim
theorem kl_min2 : KeepsL c W (fun xs H Q => ∃ i j, xs = [.int i, .int j] ∧ Q (.int (if j < i then j else i)) H) bMin2 := by
  intro σ ρ g F H vs ds Q s r h
  unfold bMin2 at h
  split at h
  · obtain ⟨v, v', rfl, rv, rv'⟩ := rep2 r
    cases rv.int
    cases rv'.int
    exact ⟨_, _, rfl, h.now s rInt⟩
  · exact h.elim
theorem kl_max : KeepsL c W (rMax c.K) bMax := by
  intro σ ρ g F H vs ds Q s r h
  unfold bMax at h
  split at h
  · split at h
    · rename_i n ns hn
      obtain ⟨v, rfl, rv⟩ := rep1 r
      rw [asInts_of hn] at rv
      obtain ⟨a, rfl, h1⟩ := rv.ints
      refine ⟨a, n :: ns, rfl, SqL.of (s.fh _ _ h1), Nat.succ_pos _, fun m hm hy => ?_⟩
      obtain ⟨k1, k2, k3⟩ := maxL_spec ns n
      have e : m = maxL n ns := by
        have t1 : maxL n ns ≤ m := by
          rcases k1 with k1 | k1
          · rw [k1]; exact hy _ List.mem_cons_self
          · exact hy _ (List.mem_cons_of_mem _ k1)
        have t2 : m ≤ maxL n ns := by
          rcases List.mem_cons.mp hm with rfl | hm
          · exact k2
          · exact k3 m hm
        omega
      rw [e]
      exact h.now s rInt
    · exact h.elim
  · exact h.elim
theorem kl_min : KeepsL c W (rMin c.K) bMin := by
  intro σ ρ g F H vs ds Q s r h
  unfold bMin at h
  split at h
  · split at h
    · rename_i n ns hn
      obtain ⟨v, rfl, rv⟩ := rep1 r
      rw [asInts_of hn] at rv
      obtain ⟨a, rfl, h1⟩ := rv.ints
      refine ⟨a, n :: ns, rfl, SqL.of (s.fh _ _ h1), Nat.succ_pos _, fun m hm hy => ?_⟩
      obtain ⟨k1, k2, k3⟩ := minL_spec ns n
      have e : m = minL n ns := by
        have t1 : m ≤ minL n ns := by
          rcases k1 with k1 | k1
          · rw [k1]; exact hy _ List.mem_cons_self
          · exact hy _ (List.mem_cons_of_mem _ k1)
        have t2 : minL n ns ≤ m := by
          rcases List.mem_cons.mp hm with rfl | hm
          · exact k2
          · exact k3 m hm
        omega
      rw [e]
      exact h.now s rInt
    · exact h.elim
  · exact h.elim
end
def CPost (c : Ctx) (F H : Hp) (o : Out D) (Q : VK) (E : XK) : Prop := match o with
  | .ok d g => ∀ v F' H', Ext c.sa c.sb F H F' H' → GOk c F' H' g → Rep c F' v d → Q v H'
  | .exc n fs g => ∀ C dx vs F' H', Ext c.sa c.sb F H F' H' → GOk c F' H' g → c.cl n = some C → H' dx = some (.xd vs) → FldR c F' vs fs → E (.ref C) (some dx) H'
  | .bad => False
def spD (K : PySem.W.Frag) (cl : Str → Option Addr) (m : List D → G → Out D) : Sp := fun vs H Q E => ∃ (sa sb : Addr) (F : Hp) (ds : List D) (g : G), Same F H ∧ GOk (mkC K cl sa sb F H) F H g ∧ RepAll (mkC K cl sa sb F H) F vs ds ∧ CPost (mkC K cl sa sb F H) F H (m ds g) Q E
abbrev FnD (P : Program) (w : World) (K : PySem.W.Frag) (mg : Str → Option Value) (base : Heap) (cl : Str → Option Addr) (k : Nat) (f : Addr) (fd : FuncData) (ps : List Str) (m : List D → G → Out D) : Prop := FnOk P w K mg base (L2.CX P w) k f fd ps (spD K cl m)
theorem RepAll.conv {c c' : Ctx} {F : Hp} (h1 : c.K = c'.K) (h2 : c.sa = c'.sa) : ∀ {vs : List V} {ds : List D}, RepAll c F vs ds → RepAll c' F vs ds
  | _, _, .nil => .nil
  | _, _, .cons h t => .cons (by unfold Rep at h ⊢; rw [← h1, ← h2]; exact h) (RepAll.conv h1 h2 t)
theorem GOk.conv {c c' : Ctx} {F H : Hp} {g : G} (h1 : c.sa = c'.sa) (h2 : c.sb = c'.sb) (k : GOk c F H g) : GOk c' F H g :=
  ⟨by rw [← h1, ← h2]; exact k.ne, by rw [← h1, ← h2]; exact k.ha, by rw [← h2]; exact k.hb, by rw [← h1]; exact k.fa, by rw [← h2]; exact k.fb, k.wf⟩
section
variable {X : Cx} {c : Ctx} {W : WX} {pos p : Pos} {x : Str} {e : Expr} {es : List Expr} {fs : AF}
theorem sp_of {m : List D → G → Out D} {ds : List D} {vs : List V} {g : G} {F H : Hp} {σ : L2.St} {ρ : RS} {Q : VK} (s : SR c F H σ ρ g) (r : RepAll c F vs ds) (h : PostG c σ (Rep c) (m ds g) F H W Q) : spD c.K c.cl m vs H Q (WE W σ) := by
  refine ⟨c.sa, c.sb, F, ds, g, s.fh, GOk.conv (c := c) (c' := (mkC c.K c.cl c.sa c.sb F H)) rfl rfl s.gok, RepAll.conv (c := c) (c' := (mkC c.K c.cl c.sa c.sb F H)) rfl rfl r, ?_⟩
  unfold CPost
  unfold PostG at h
  cases hm : m ds g with
  | ok d g' => rw [hm] at h; exact fun v F' H' e1 gk rr => h v F' H' e1 (GOk.conv (c := (mkC c.K c.cl c.sa c.sb F H)) (c' := c) rfl rfl gk) rr
  | exc n fs g' => rw [hm] at h; exact fun C dx vs F' H' e1 gk hc hd hf => h C dx vs F' H' e1 (GOk.conv (c := (mkC c.K c.cl c.sa c.sb F H)) (c' := c) rfl rfl gk) hc hd hf
  | bad => rw [hm] at h; exact h
theorem d_call {k : Nat} {f : Addr} {fd : FuncData} {ps : List Str} {m : List D → G → Out D} (hK : c.K = X.K) (Fn : FnD X.prog X.w X.K X.mg X.base c.cl k f fd ps m) (hr : Room k X.A) (hg : Gl X x) (hm : X.mg x = some (.ref f)) (hk : PySem.W.keepIn X.K (.ref f) = true) (hb : Binds X.K fd ps []) (tk : Takes X W) (ha : DA X c W (e :: es) fs)
    (hdb : (x == ("__debug__" : Str)) = false := by decide) (he : starEach (e :: es) X.env = (false, eval e X.env) :: starEach es X.env := by rfl) (hpl : (backTo pos (starEach es X.env)).any (·.1) = false := by rfl) :
    DE X c W (.Call (.Name x p) (e :: es) [] pos) (eCall m fs) :=
  PE.imp (pe_callS Fn hr hg hm hk hb (fun σ => passAt tk σ) ha hdb he hpl) fun σ H Q ⟨F, ρ, g, s, h⟩ => ⟨F, ρ, g, s, PostG.bind s h fun ds g1 vs F1 H1 e1 s1 r1 h1 => by rw [← hK]; exact sp_of s1 r1 h1⟩
end
abbrev LF := RS → G → Out (List D)
def IterR (c : Ctx) (F : Hp) (J : It) (ds : List D) : Prop := ∀ (i : Nat) (H : Hp), Same F H →
  (∀ d, ds[i]? = some d → J.go i H ∧ ∀ x H', J.yld i H x H' → H' = H ∧ Rep c F x d) ∧ (ds.length ≤ i → J.stop i H)
def tI (c : Ctx) (W : WX) (f : LF) : TI := fun σ H R => ∃ F ρ g, SR c F H σ ρ g ∧ PostG c σ (IterR c) (f ρ g) F H W R
abbrev DI (X : Cx) (c : Ctx) (W : WX) (tg e : Expr) (f : LF) : Prop := PI X tg e (tI c W f)
theorem PI.imp {X : Cx} {tg e : Expr} {t t' : TI} (h : PI X tg e t) (q : ∀ σ H Q, t' σ H Q → t σ H Q) : PI X tg e t' := ⟨fun pins s σ H Q I w => h.run pins s σ H Q I (q σ H Q w)⟩
def iLst (fe : EF) : LF := fun ρ g => (fe ρ g).bind fun x g1 => match x with
  | .list xs => .ok xs g1
  | _ => .bad
def iTpl (fe : EF) : LF := fun ρ g => (fe ρ g).bind fun x g1 => match x with
  | .tuple xs => .ok xs g1
  | _ => .bad
def upTo (lo : Int) (n : Nat) : List D := (List.range n).map fun (i : Nat) => PyData.int (lo + (i : Int))
def iRan1 (fs : AF) : LF := fun ρ g => (fs ρ g).bind fun xs g1 => match xs with
  | [.int j] => if -(2 ^ 62) ≤ j ∧ j < 2 ^ 62 then .ok (upTo 0 j.toNat) g1 else .bad
  | _ => .bad
def iRan2 (fs : AF) : LF := fun ρ g => (fs ρ g).bind fun xs g1 => match xs with
  | [.int i, .int j] => if -(2 ^ 62) ≤ i ∧ i < 2 ^ 62 ∧ -(2 ^ 62) ≤ j ∧ j < 2 ^ 62 then .ok (upTo i (j - i).toNat) g1 else .bad
  | _ => .bad
section
variable {X : Cx} {c : Ctx} {W : WX} {pos p : Pos} {tg e : Expr} {es : List Expr} {fs : AF} {fe : EF}
theorem iter_l {F : Hp} {a : Addr} {vs : List V} {ds : List D} (h1 : F a = some (.lst vs)) (h2 : RqAll c.K F vs ds) : IterR c F (Itl c.K a) ds := fun i H sm => by
  have hs : SqL c.K H a vs := SqL.of (sm _ _ h1)
  refine ⟨fun d hd => ?_, fun hl => ⟨vs, hs, by rw [h2.len]; exact hl⟩⟩
  obtain ⟨v, hv, rv⟩ := h2.get hd
  refine ⟨⟨vs, v, hs, hv⟩, fun x H' y => ⟨y.1, ?_⟩⟩
  have := y.2 vs hs
  rw [hv] at this
  cases this
  exact .inl rv
theorem iter_t {F : Hp} {a : Addr} {vs : List V} {ds : List D} (h1 : SqT c.K F a vs) (h2 : RqAll c.K F vs ds) : IterR c F (Itt c.K a) ds := fun i H sm => by
  have hs : SqT c.K H a vs := seqT_mono sm h1
  refine ⟨fun d hd => ?_, fun hl => ⟨vs, hs, by rw [h2.len]; exact hl⟩⟩
  obtain ⟨v, hv, rv⟩ := h2.get hd
  refine ⟨⟨vs, v, hs, hv⟩, fun x H' y => ⟨y.1, ?_⟩⟩
  have := y.2 vs hs
  rw [hv] at this
  cases this
  exact .inl rv
theorem upTo_get {lo : Int} {n i : Nat} {d : D} (h : (upTo lo n)[i]? = some d) : i < n ∧ d = .int (lo + (i : Int)) := by
  unfold upTo at h
  rw [List.getElem?_map] at h
  by_cases hi : i < n
  · rw [List.getElem?_range hi] at h
    cases h
    exact ⟨hi, rfl⟩
  · rw [List.getElem?_eq_none (by simpa using hi)] at h
    cases h
theorem upTo_length {lo : Int} {n : Nat} : (upTo lo n).length = n := by unfold upTo; simp
theorem iter_r {F : Hp} {lo : Int} {n : Nat} : IterR c F (Itr lo n) (upTo lo n) := fun i H sm => by
  refine ⟨fun d hd => ?_, fun hl => by rw [upTo_length] at hl; exact hl⟩
  obtain ⟨h1, rfl⟩ := upTo_get hd
  exact ⟨h1, fun x H' y => ⟨y.1, by rw [y.2]; exact rInt⟩⟩
theorem di_list (hK : c.K = X.K) (ha : DE X c W e fe) : DI X c W tg e (iLst fe) := PI.imp (pi_list ha) fun σ H R ⟨F, ρ, g, s, h⟩ => ⟨F, ρ, g, s, PostG.bind s h fun x g1 v F1 H1 e1 s1 r1 h1 => by
  cases x with
  | list xs =>
    obtain ⟨a, vs, rfl, q1, q2⟩ := r1.list
    rw [← hK]
    exact ⟨a, rfl, ⟨vs, SqL.of (s1.fh _ _ q1)⟩, h1.now s1 (iter_l q1 q2)⟩
  | _ => exact h1.elim⟩
theorem di_tup (hK : c.K = X.K) (ha : DE X c W e fe) : DI X c W tg e (iTpl fe) := PI.imp (pi_tup ha) fun σ H R ⟨F, ρ, g, s, h⟩ => ⟨F, ρ, g, s, PostG.bind s h fun x g1 v F1 H1 e1 s1 r1 h1 => by
  cases x with
  | tuple xs =>
    obtain ⟨a, vs, rfl, q1, q2⟩ := r1.tuple
    rw [← hK]
    exact ⟨a, rfl, ⟨vs, seqT_mono s1.fh q1⟩, h1.now s1 (iter_t q1 q2)⟩
  | _ => exact h1.elim⟩
theorem di_ran1 {a : Expr} (hg : Gl X "range") (hm : X.mg "range" = none) (ha : DA X c W [a] fs) (hs : starEach [a] X.env = [(false, eval a X.env)] := by rfl) : DI X c W tg (.Call (.Name "range" p) [a] [] pos) (iRan1 fs) :=
  PI.imp (pi_range1 hg hm ha hs) fun σ H R ⟨F, ρ, g, s, h⟩ => ⟨F, ρ, g, s, PostG.bind s h fun xs g1 vs F1 H1 e1 s1 r1 h1 => by
    split at h1
    · obtain ⟨v, rfl, rv⟩ := rep1 r1
      cases rv.int
      obtain ⟨⟨k1, k2⟩, h1⟩ := h1.ite
      exact ⟨_, rfl, k1, k2, h1.now s1 iter_r⟩
    · exact h1.elim⟩
theorem di_ran2 {a b : Expr} (hg : Gl X "range") (hm : X.mg "range" = none) (ha : DA X c W [a, b] fs) (hs : starEach [a, b] X.env = [(false, eval a X.env), (false, eval b X.env)] := by rfl) (hs2 : starEach [b] X.env = [(false, eval b X.env)] := by rfl) : DI X c W tg (.Call (.Name "range" p) [a, b] [] pos) (iRan2 fs) :=
  PI.imp (pi_range2 hg hm ha hs hs2) fun σ H R ⟨F, ρ, g, s, h⟩ => ⟨F, ρ, g, s, PostG.bind s h fun xs g1 vs F1 H1 e1 s1 r1 h1 => by
    split at h1
    · obtain ⟨v, v', rfl, rv, rv'⟩ := rep2 r1
      cases rv.int
      cases rv'.int
      obtain ⟨k1, h1⟩ := h1.ite
      exact ⟨_, _, rfl, k1, h1.now s1 iter_r⟩
    · exact h1.elim⟩
end
end DL
namespace DL
open PySem
open PySem.Spec
open PyProof.Rows
open L2
section
variable {c : Ctx} {F H : Hp} {σ : L2.St} {ρ : RS} {g : G}
theorem SR.setD (s : SR c F H σ ρ g) {v : V} {x : D} (r : Rep c F v x) (i : Nat) : SR c F H (σ.set i (some v)) (ρ.set i (.d x)) g where
  ext := s.ext
  gok := s.gok
  g0 := s.g0
  len := by rw [List.length_set, List.length_set, s.len]
  slots := fun j y h => by
    by_cases hj : i = j
    · subst hj
      by_cases hi : i < ρ.length
      · rw [List.getElem?_set_self hi] at h
        cases h
        rw [List.getElem?_set_self (by rw [s.len]; exact hi)]
        exact ⟨v, rfl, r⟩
      · rw [List.getElem?_eq_none (by rw [List.length_set]; omega)] at h
        cases h
    · rw [List.getElem?_set_ne hj] at h ⊢
      exact s.slots j y h
  sep := fun j k xs ys a h1 h2 h3 h4 => by
    have n1 : i ≠ j := fun e => by
      subst e
      by_cases hi : i < ρ.length
      · rw [List.getElem?_set_self hi] at h1; cases h1
      · rw [List.getElem?_eq_none (by rw [List.length_set]; omega)] at h1; cases h1
    have n2 : i ≠ k := fun e => by
      subst e
      by_cases hi : i < ρ.length
      · rw [List.getElem?_set_self hi] at h2; cases h2
      · rw [List.getElem?_eq_none (by rw [List.length_set]; omega)] at h2; cases h2
    rw [List.getElem?_set_ne n1] at h1 h3
    rw [List.getElem?_set_ne n2] at h2 h4
    exact s.sep j k xs ys a h1 h2 h3 h4
theorem SR.unset (s : SR c F H σ ρ g) (o : Option V) (i : Nat) : SR c F H (σ.set i o) (ρ.set i .un) g where
  ext := s.ext
  gok := s.gok
  g0 := s.g0
  len := by rw [List.length_set, List.length_set, s.len]
  slots := fun j y h => by
    by_cases hj : i = j
    · subst hj
      by_cases hi : i < ρ.length
      · rw [List.getElem?_set_self hi] at h
        cases h
        trivial
      · rw [List.getElem?_eq_none (by rw [List.length_set]; omega)] at h
        cases h
    · rw [List.getElem?_set_ne hj] at h ⊢
      exact s.slots j y h
  sep := fun j k xs ys a h1 h2 h3 h4 => by
    have n1 : i ≠ j := fun e => by
      subst e
      by_cases hi : i < ρ.length
      · rw [List.getElem?_set_self hi] at h1; cases h1
      · rw [List.getElem?_eq_none (by rw [List.length_set]; omega)] at h1; cases h1
    have n2 : i ≠ k := fun e => by
      subst e
      by_cases hi : i < ρ.length
      · rw [List.getElem?_set_self hi] at h2; cases h2
      · rw [List.getElem?_eq_none (by rw [List.length_set]; omega)] at h2; cases h2
    rw [List.getElem?_set_ne n1] at h1 h3
    rw [List.getElem?_set_ne n2] at h2 h4
    exact s.sep j k xs ys a h1 h2 h3 h4
theorem SR.own (s : SR c F H σ ρ g) {i : Nat} {xs : List D} (h : ρ[i]? = some (.own xs)) : ∃ a vs, σ[i]? = some (some (.ref a)) ∧ H a = some (.lst vs) ∧ RqAll c.K F vs xs ∧ F a = none ∧ c.H0 a = none := s.slots i _ h
theorem SR.setO (s : SR c F H σ ρ g) {p : Addr} {vs : List V} {xs : List D} (h1 : H p = some (.lst vs)) (h2 : F p = none) (h3 : c.H0 p = none) (h4 : RqAll c.K F vs xs) (h5 : ∀ (j : Nat) (ys : List D), ρ[j]? = some (.own ys) → σ[j]? ≠ some (some (.ref p))) (i : Nat) : SR c F H (σ.set i (some (.ref p))) (ρ.set i (.own xs)) g where
  ext := s.ext
  gok := s.gok
  g0 := s.g0
  len := by rw [List.length_set, List.length_set, s.len]
  slots := fun j y h => by
    by_cases hj : i = j
    · subst hj
      by_cases hi : i < ρ.length
      · rw [List.getElem?_set_self hi] at h
        cases h
        rw [List.getElem?_set_self (by rw [s.len]; exact hi)]
        exact ⟨p, vs, rfl, h1, h4, h2, h3⟩
      · rw [List.getElem?_eq_none (by rw [List.length_set]; omega)] at h
        cases h
    · rw [List.getElem?_set_ne hj] at h ⊢
      exact s.slots j y h
  sep := fun j k xs' ys a k1 k2 k3 k4 => by
    by_cases hj : i = j
    · by_cases hk : i = k
      · omega
      · subst hj
        rw [List.getElem?_set_ne hk] at k2 k4
        by_cases hi : i < σ.length
        · rw [List.getElem?_set_self hi] at k3
          cases k3
          exact absurd k4 (h5 k ys k2)
        · rw [List.getElem?_eq_none (by rw [List.length_set]; omega)] at k3
          cases k3
    · rw [List.getElem?_set_ne hj] at k1 k3
      by_cases hk : i = k
      · subst hk
        by_cases hi : i < σ.length
        · rw [List.getElem?_set_self hi] at k4
          cases k4
          exact absurd k3 (h5 j xs' k1)
        · rw [List.getElem?_eq_none (by rw [List.length_set]; omega)] at k4
          cases k4
      · rw [List.getElem?_set_ne hk] at k2 k4
        exact s.sep j k xs' ys a k1 k2 k3 k4
theorem set_own {ρ : RS} {i j : Nat} {x : SV} {ys : List D} (n : ∀ ys : List D, x ≠ .own ys) (h : (ρ.set i x)[j]? = some (.own ys)) : i ≠ j ∧ ρ[j]? = some (.own ys) := by
  by_cases e : i = j
  · subst e
    by_cases hi : i < ρ.length
    · rw [List.getElem?_set_self hi] at h
      exact absurd (Option.some.inj h) (n ys)
    · rw [List.getElem?_eq_none (by rw [List.length_set]; omega)] at h; cases h
  · rw [List.getElem?_set_ne e] at h
    exact ⟨e, h⟩
theorem SR.setDic (s : SR c F H σ ρ g) {p : Addr} {kvs : DK} (h1 : H p = some (.dT (dKV kvs))) (h2 : F p = none) (h3 : c.H0 p = none) (i : Nat) : SR c F H (σ.set i (some (.ref p))) (ρ.set i (.odc kvs)) g where
  ext := s.ext
  gok := s.gok
  g0 := s.g0
  len := by rw [List.length_set, List.length_set, s.len]
  slots := fun j y h => by
    by_cases hj : i = j
    · subst hj
      by_cases hi : i < ρ.length
      · rw [List.getElem?_set_self hi] at h
        cases h
        rw [List.getElem?_set_self (by rw [s.len]; exact hi)]
        exact ⟨p, rfl, h1, h2, h3⟩
      · rw [List.getElem?_eq_none (by rw [List.length_set]; omega)] at h
        cases h
    · rw [List.getElem?_set_ne hj] at h ⊢
      exact s.slots j y h
  sep := fun j k xs' ys a k1 k2 k3 k4 => by
    obtain ⟨n1, k1⟩ := set_own (fun _ e => by cases e) k1
    obtain ⟨n2, k2⟩ := set_own (fun _ e => by cases e) k2
    rw [List.getElem?_set_ne n1] at k3
    rw [List.getElem?_set_ne n2] at k4
    exact s.sep j k xs' ys a k1 k2 k3 k4
theorem SR.setDst (s : SR c F H σ ρ g) {p : Addr} {L : List (List Int × Addr)} {ks : List (List Int)} (h1 : H p = some (DsO p L)) (h2 : F p = none) (h3 : c.H0 p = none) (h4 : L.map (·.1) = ks) (h5 : ∀ x ∈ L, SqT c.K F x.2 (x.1.map V.int)) (i : Nat) : SR c F H (σ.set i (some (.ref p))) (ρ.set i (.ods ks)) g where
  ext := s.ext
  gok := s.gok
  g0 := s.g0
  len := by rw [List.length_set, List.length_set, s.len]
  slots := fun j y h => by
    by_cases hj : i = j
    · subst hj
      by_cases hi : i < ρ.length
      · rw [List.getElem?_set_self hi] at h
        cases h
        rw [List.getElem?_set_self (by rw [s.len]; exact hi)]
        exact ⟨p, L, rfl, h1, h4, h5, h2, h3⟩
      · rw [List.getElem?_eq_none (by rw [List.length_set]; omega)] at h
        cases h
    · rw [List.getElem?_set_ne hj] at h ⊢
      exact s.slots j y h
  sep := fun j k xs' ys a k1 k2 k3 k4 => by
    obtain ⟨n1, k1⟩ := set_own (fun _ e => by cases e) k1
    obtain ⟨n2, k2⟩ := set_own (fun _ e => by cases e) k2
    rw [List.getElem?_set_ne n1] at k3
    rw [List.getElem?_set_ne n2] at k4
    exact s.sep j k xs' ys a k1 k2 k3 k4
theorem SR.updO (s : SR c F H σ ρ g) {i : Nat} {a : Addr} {xs xs' : List D} {vs vs' : List V} (h : ρ[i]? = some (.own xs)) (e : σ[i]? = some (some (.ref a))) (h1 : H a = some (.lst vs)) (h2 : F a = none) (h3 : c.H0 a = none) (h4 : RqAll c.K F vs' xs') : SR c F (upd H a (.lst vs')) σ (ρ.set i (.own xs')) g where
  ext := {
    f := s.ext.f
    fh := fun p o q => by
      rw [upd_ne (ne_of_none q h2)]
      exact s.ext.fh p o q
    keep := fun p o q n m => by
      rw [upd_ne (ne_of_none q h3)]
      exact s.ext.keep p o q n m
    dom := fun p o q => by
      rw [upd_ne (ne_of_none q h3)]
      exact s.ext.dom p o q
    ff := s.ext.ff }
  gok := by
    obtain ⟨n1, n2⟩ := s.ownNe h3
    exact s.gok.ext rfl rfl (upd_ne n1.symm) (upd_ne n2.symm)
  g0 := s.g0
  len := by rw [List.length_set, s.len]
  slots := fun j y k => by
    by_cases hj : i = j
    · subst hj
      have hi : i < ρ.length := (List.getElem?_eq_some_iff.mp h).1
      rw [List.getElem?_set_self hi] at k
      cases k
      exact ⟨a, vs', e, upd_same, h4, h2, h3⟩
    · rw [List.getElem?_set_ne hj] at k
      have q := s.slots j y k
      cases y with
      | un => trivial
      | d x => exact q
      | own ys =>
        obtain ⟨b, ws, q1, q2, q3, q4, q5⟩ := q
        refine ⟨b, ws, q1, ?_, q3, q4, q5⟩
        rw [upd_ne fun z => hj (s.sep i j xs ys a h k e (by rw [← z]; exact q1))]
        exact q2
      | ex fs =>
        obtain ⟨ws, q1, q2, q3⟩ := q
        refine ⟨ws, q1, ?_, q3⟩
        rw [upd_ne fun z => by rw [z, h1] at q2; cases q2]
        exact q2
      | odc kvs =>
        obtain ⟨b, q1, q2, q3, q4⟩ := q
        refine ⟨b, q1, ?_, q3, q4⟩
        rw [upd_ne fun z => by rw [z, h1] at q2; cases q2]
        exact q2
      | ods ks =>
        obtain ⟨b, L, q1, q2, q3, q4, q5, q6⟩ := q
        refine ⟨b, L, q1, ?_, q3, q4, q5, q6⟩
        rw [upd_ne fun z => by rw [z, h1] at q2; cases q2]
        exact q2
  sep := fun j k xs1 ys b k1 k2 k3 k4 => by
    have up : ∀ {m : Nat} {zs : List D}, (ρ.set i (.own xs'))[m]? = some (.own zs) → ∃ zs', ρ[m]? = some (.own zs') := fun {m zs} q => by
      by_cases hm : i = m
      · subst hm; exact ⟨xs, h⟩
      · rw [List.getElem?_set_ne hm] at q; exact ⟨zs, q⟩
    obtain ⟨z1, k1⟩ := up k1
    obtain ⟨z2, k2⟩ := up k2
    exact s.sep j k z1 z2 b k1 k2 k3 k4
theorem SR.freeze (s : SR c F H σ ρ g) {i : Nat} {a : Addr} {xs : List D} {vs : List V} (h : ρ[i]? = some (.own xs)) (e : σ[i]? = some (some (.ref a))) (h1 : H a = some (.lst vs)) (h2 : F a = none) (h3 : c.H0 a = none) (h4 : RqAll c.K F vs xs) : SR c (upd F a (.lst vs)) H σ (ρ.set i (.d (.list xs))) g := by
  have sm : Same F (upd F a (.lst vs)) := fun b o q => by rw [upd_ne (ne_of_none q h2)]; exact q
  obtain ⟨n1, n2⟩ := s.ownNe h3
  refine { ext := ?_, gok := s.gok.ext (upd_ne n1.symm) (upd_ne n2.symm) rfl rfl, g0 := s.g0, len := by rw [List.length_set, s.len], slots := fun j y k => ?_, sep := fun j k xs1 ys b k1 k2 k3 k4 => ?_ }
  · refine ⟨s.ext.f.trans sm, fun b o q => ?_, s.ext.keep, s.ext.dom, fun b o q => ?_⟩
    · by_cases hb : b = a
      · subst hb; rw [upd_same] at q; cases q; exact h1
      · rw [upd_ne hb] at q; exact s.ext.fh b o q
    · rw [upd_ne (ne_of_none q h3)]; exact s.ext.ff b o q
  · by_cases hj : i = j
    · subst hj
      have hi : i < ρ.length := (List.getElem?_eq_some_iff.mp h).1
      rw [List.getElem?_set_self hi] at k
      cases k
      exact ⟨.ref a, e, .inl (.lst upd_same (RqAll_mono sm _ _ h4))⟩
    · rw [List.getElem?_set_ne hj] at k
      have q := s.slots j y k
      cases y with
      | un => trivial
      | d x =>
        obtain ⟨v, q1, q2⟩ := q
        exact ⟨v, q1, q2.mono sm⟩
      | own ys =>
        obtain ⟨b, ws, q1, q2, q3, q4, q5⟩ := q
        refine ⟨b, ws, q1, q2, RqAll_mono sm _ _ q3, ?_, q5⟩
        rw [upd_ne fun z => hj (s.sep i j xs ys a h k e (by rw [← z]; exact q1))]
        exact q4
      | ex fs =>
        obtain ⟨ws, q1, q2, q3⟩ := q
        exact ⟨ws, q1, q2, q3.mono sm⟩
      | odc kvs =>
        obtain ⟨b, q1, q2, q3, q4⟩ := q
        refine ⟨b, q1, q2, ?_, q4⟩
        rw [upd_ne fun z => by rw [z, h1] at q2; cases q2]
        exact q3
      | ods ks =>
        obtain ⟨b, L, q1, q2, q3, q4, q5, q6⟩ := q
        refine ⟨b, L, q1, q2, q3, fun x hx => seqT_mono sm (q4 x hx), ?_, q6⟩
        rw [upd_ne fun z => by rw [z, h1] at q2; cases q2]
        exact q5
  · have up : ∀ {m : Nat} {zs : List D}, (ρ.set i (.d (.list xs)))[m]? = some (.own zs) → ρ[m]? = some (.own zs) := fun {m zs} q => by
      by_cases hm : i = m
      · subst hm
        have hi : i < ρ.length := (List.getElem?_eq_some_iff.mp h).1
        rw [List.getElem?_set_self hi] at q
        cases q
      · rw [List.getElem?_set_ne hm] at q; exact q
    exact s.sep j k xs1 ys b (up k1) (up k2) k3 k4
end
def wipeR (ρ : RS) : List Nat → RS
  | [] => ρ
  | v :: vs => (wipeR ρ vs).set v .un
theorem SR.wipe {c : Ctx} {F H : Hp} {σ : L2.St} {ρ : RS} {g : G} (s : SR c F H σ ρ g) : ∀ vs : List Nat, SR c F H (L2.wipe σ vs) (wipeR ρ vs) g
  | [] => s
  | v :: vs => (SR.wipe s vs).unset none v
abbrev BF := D → RS → Option RS
def But (is : List Nat) (σ σ' : L2.St) : Prop := σ'.length = σ.length ∧ ∀ j : Nat, j ∉ is → σ'[j]? = σ[j]?
theorem But.refl {is : List Nat} {σ : L2.St} : But is σ σ := ⟨rfl, fun _ _ => rfl⟩
theorem But.trans {is js : List Nat} {σ σ1 σ2 : L2.St} (a : But is σ σ1) (b : But js σ1 σ2) : But (is ++ js) σ σ2 := ⟨b.1.trans a.1, fun j h => (b.2 j fun z => h (List.mem_append_right _ z)).trans (a.2 j fun z => h (List.mem_append_left _ z))⟩
def tG (c : Ctx) (is : List Nat) (b : BF) : TG := fun v σ H Q => ∃ F ρ g x ρ', SR c F H σ ρ g ∧ Rep c F v x ∧ b x ρ = some ρ' ∧ ∀ σ', SR c F H σ' ρ' g → But is σ σ' → Q σ' H
def tGs (c : Ctx) (is : List Nat) (b : List D → RS → Option RS) : TGs := fun vs σ H Q => ∃ F ρ g xs ρ', SR c F H σ ρ g ∧ RqAll c.K F vs xs ∧ b xs ρ = some ρ' ∧ ∀ σ', SR c F H σ' ρ' g → But is σ σ' → Q σ' H
abbrev DG (X : Cx) (c : Ctx) (is : List Nat) (e : Expr) (b : BF) : Prop := PG X e (tG c is b)
abbrev DGs (X : Cx) (c : Ctx) (is : List Nat) (es : List Expr) (b : List D → RS → Option RS) : Prop := PGs X es (tGs c is b)
theorem PG.imp {X : Cx} {e : Expr} {t t' : TG} (h : PG X e t) (q : ∀ v σ H Q, t' v σ H Q → t v σ H Q) : PG X e t' := ⟨fun pins s σ H v u Q I r w => h.run pins s σ H v u Q I r (q v σ H Q w)⟩
theorem PGs.imp {X : Cx} {e : List Expr} {t t' : TGs} (h : PGs X e t) (q : ∀ v σ H Q, t' v σ H Q → t v σ H Q) : PGs X e t' := ⟨fun pins s σ H v u Q I r w => h.run pins s σ H v u Q I r (q v σ H Q w)⟩
def bName (i : Nat) : BF := fun x ρ => some (ρ.set i (.d x))
def bNil : List D → RS → Option RS := fun xs ρ => match xs with
  | [] => some ρ
  | _ => none
def bCons (b : BF) (bs : List D → RS → Option RS) : List D → RS → Option RS := fun xs ρ => match xs with
  | x :: r => (b x ρ).bind fun ρ1 => bs r ρ1
  | [] => none
def bTup (n : Nat) (bs : List D → RS → Option RS) : BF := fun x ρ => match x with
  | .tuple xs => if xs.length = n then bs xs ρ else none
  | _ => none
section
variable {X : Cx} {c : Ctx} {pos : Pos}
theorem dg_name {i : Nat} {x : Str} (h : PG X (.Name x pos) (gName i)) : DG X c [i] (.Name x pos) (bName i) := PG.imp h fun v σ H Q ⟨F, ρ, g, x, ρ', s, r, e, q⟩ => by
  cases e
  exact q _ (s.setD r i) ⟨by rw [List.length_set], fun j hj => by rw [List.getElem?_set_ne (fun z => hj (by rw [z]; exact List.mem_singleton.mpr rfl))]⟩
theorem dgs_nil : DGs X c [] [] bNil := PGs.imp pgs_nil fun v σ H Q ⟨F, ρ, g, xs, ρ', s, r, e, q⟩ => by
  cases xs with
  | cons _ _ => cases e
  | nil =>
    cases e
    cases r
    exact ⟨rfl, q _ s But.refl⟩
theorem dgs_cons {e : Expr} {es : List Expr} {b : BF} {bs : List D → RS → Option RS} {is js : List Nat} (h1 : DG X c is e b) (h2 : DGs X c js es bs) (hs : (assignEach (e :: es) X.env).map (·.2) = assign e X.env :: (assignEach es X.env).map (·.2) := by rfl) : DGs X c (is ++ js) (e :: es) (bCons b bs) :=
  PGs.imp (pgs_cons h1 h2 hs) fun v σ H Q ⟨F, ρ, g, xs, ρ', s, r, e, q⟩ => by
    cases xs with
    | nil => cases e
    | cons x xs =>
      cases r with
      | cons h t =>
        cases q1 : b x ρ with
        | none => simp only [bCons, q1] at e; cases e
        | some ρ1 =>
          simp only [bCons, q1] at e
          exact ⟨_, _, rfl, F, ρ, g, x, ρ1, s, .inl h, q1, fun σ1 s1 b1 => ⟨F, ρ1, g, xs, ρ', s1, t, e, fun σ2 s2 b2 => q σ2 s2 (b1.trans b2)⟩⟩
theorem dg_tup {es : List Expr} {k n : Nat} {bs : List D → RS → Option RS} (hK : c.K = X.K) (hc : X.calm = true) {is : List Nat} (h : DGs X c is es bs) (hn : (assignEach es X.env).length = n := by rfl) (hst : (assignEach es X.env).findIdx? (·.1) = none := by rfl) : DG X c is (.Tuple es k pos) (bTup n bs) :=
  PG.imp (pg_tup hc h hn hst) fun v σ H Q ⟨F, ρ, g, x, ρ', s, r, e, q⟩ => by
    cases x with
    | tuple xs =>
      obtain ⟨a, vs, rfl, h1, h2⟩ := r.tuple
      simp only [bTup] at e
      split at e
      · rename_i hl
        exact ⟨a, vs, rfl, by rw [← hK]; exact seqT_mono s.fh h1, by rw [h2.len]; exact hl, F, ρ, g, xs, ρ', s, h2, e, q⟩
      · cases e
    | _ => cases e
end
def PostO (c : Ctx) (σ : L2.St) (o : Out (List D)) (F H : Hp) (W : WX) (Q : VK) : Prop :=
  match o with
  | .ok ds g => ∀ p vs F' H', Ext c.sa c.sb F H F' H' → GOk c F' H' g → H' p = some (.lst vs) → F' p = none → H p = none → RqAll c.K F' vs ds → Q (.ref p) H'
  | .exc n fs g => ∀ C dx vs F' H', Ext c.sa c.sb F H F' H' → GOk c F' H' g → c.cl n = some C → H' dx = some (.xd vs) → FldR c F' vs fs → W (.ref C) (some dx) σ H'
  | .bad => False
abbrev OF' := RS → G → Out (List D)
def tEo (c : Ctx) (W : WX) (f : OF') : TE := fun σ H Q => ∃ F ρ g, SR c F H σ ρ g ∧ PostO c σ (f ρ g) F H W Q
abbrev DEo (X : Cx) (c : Ctx) (W : WX) (e : Expr) (f : OF') : Prop := PE X e (tEo c W f)
theorem PostO.up {c : Ctx} {σ : L2.St} {o : Out (List D)} {F H F' H' : Hp} {W : WX} {Q : VK} (h : PostO c σ o F H W Q) (e : Ext c.sa c.sb F H F' H') : PostO c σ o F' H' W Q := by
  cases o with
  | ok a g => exact fun p vs F1 H1 s k h1 h2 h3 => h p vs F1 H1 (e.trans s) k h1 h2 (by
      cases q : H p with
      | none => rfl
      | some o =>
        obtain ⟨o', q'⟩ := e.dom p o q
        rw [h3] at q'
        cases q')
  | exc n fs g => exact fun C dx vs F1 H1 s => h C dx vs F1 H1 (e.trans s)
  | bad => exact h
theorem PostO.bind {α β : Type} {c : Ctx} {σ : L2.St} {ρ : RS} {g0 : G} {R : Hp → β → α → Prop} {o : Out α} {k : α → G → Out (List D)} {F H : Hp} {W : WX} {Q : β → Hp → Prop} {Q' : VK}
    (s0 : SR c F H σ ρ g0) (h : PostO c σ (o.bind k) F H W Q') (q : ∀ a g b F1 H1, Ext c.sa c.sb F H F1 H1 → SR c F1 H1 σ ρ g → R F1 b a → PostO c σ (k a g) F1 H1 W Q' → Q b H1) : PostG c σ R o F H W Q := by
  cases o with
  | ok a g => exact fun b F1 H1 e gk r => q a g b F1 H1 e (s0.ext' e gk) r (PostO.up (show PostO c σ (k a g) F H W Q' from h) e)
  | exc n fs g => exact h
  | bad => exact h
theorem PostO.new {c : Ctx} {σ : L2.St} {ρ : RS} {g : G} {ds : List D} {F H : Hp} {W : WX} {Q : VK} (h : PostO c σ (.ok ds g) F H W Q) (s : SR c F H σ ρ g) {p : Addr} (n : H p = none) {vs : List V} (r : RqAll c.K F vs ds) : Q (.ref p) (upd H p (.lst vs)) :=
  h p vs F _ (Ext.newM s.fh n) (s.gok.newM n) upd_same (s.fnone n) n r
theorem PostO.ite {c : Ctx} {σ : L2.St} {p : Prop} [Decidable p] {o : Out (List D)} {F H : Hp} {W : WX} {Q : VK} (h : PostO c σ (if p then o else .bad) F H W Q) : p ∧ PostO c σ o F H W Q := by
  by_cases hp : p
  · rw [if_pos hp] at h; exact ⟨hp, h⟩
  · rw [if_neg hp] at h; exact h.elim
def eOf (f : OF') : EF := fun ρ g => (f ρ g).bind fun ds g1 => .ok (.list ds) g1
section
variable {X : Cx} {c : Ctx} {W : WX} {pos p : Pos} {a b e : Expr} {es : List Expr} {fs : AF} {fa fb fe : EF}
def oLst (fs : AF) : OF' := fun ρ g => (fs ρ g).bind fun xs g1 => if noTok xs = true ∧ xs.length ≤ LIM then .ok xs g1 else .bad
theorem o_lst (ha : DA X c W es fs) : DEo X c W (.List es pos) (oLst fs) :=
  PE.imp (pe_lst ha) fun σ H Q ⟨F, ρ, g, s, h⟩ => ⟨F, ρ, g, s, PostO.bind s h fun xs g1 vs F1 H1 e1 s1 r1 h1 => by
    obtain ⟨⟨h2, h3⟩, h1⟩ := h1.ite
    exact ⟨lim_ok (by rw [r1.length]; exact h3), fun p n => h1.new s1 n (r1.rq h2)⟩⟩
def oCat (fa fb : EF) : OF' := fun ρ g => (fa ρ g).bind fun x g1 => (fb ρ g1).bind fun y g2 => match x, y with
  | .list i, .list j => if i.length + j.length ≤ LIM then .ok (i ++ j) g2 else .bad
  | _, _ => .bad
theorem o_cat (ha : DE X c W a fa) (hb : DE X c W b fb) : DEo X c W (.BinOp a .Add b pos) (oCat fa fb) :=
  PE.imp (pe_op op_cat ha hb) fun σ H Q ⟨F, ρ, g, s, h⟩ => ⟨F, ρ, g, s, PostO.bind s h fun x g1 v F1 H1 e1 s1 r1 h1 => ⟨F1, ρ, g1, s1, PostO.bind s1 h1 fun y g2 u F2 H2 e2 s2 r2 h2 => by
    split at h2
    · obtain ⟨a, vs, rfl, q1, q2⟩ := (r1.mono e2.f).list
      obtain ⟨b, ws, rfl, q3, q4⟩ := r2.list
      obtain ⟨hl, h2⟩ := h2.ite
      exact ⟨a, b, vs, ws, rfl, rfl, s2.fh _ _ q1, s2.fh _ _ q3, lim_ok (by rw [q2.len, q4.len]; exact hl), fun p n => h2.new s2 n (q2.append q4)⟩
    · exact h2.elim⟩⟩
def oRep (fa fb : EF) : OF' := fun ρ g => (fa ρ g).bind fun x g1 => (fb ρ g1).bind fun y g2 => match x, y with
  | .list xs, .int k => if k ≤ LIM ∧ -(2 ^ 62) ≤ k ∧ xs.length * k.toNat ≤ LIM then .ok (List.replicate k.toNat xs).flatten g2 else .bad
  | _, _ => .bad
theorem o_rep (ha : DE X c W a fa) (hb : DE X c W b fb) : DEo X c W (.BinOp a .Mult b pos) (oRep fa fb) :=
  PE.imp (pe_op op_rep ha hb) fun σ H Q ⟨F, ρ, g, s, h⟩ => ⟨F, ρ, g, s, PostO.bind s h fun x g1 v F1 H1 e1 s1 r1 h1 => ⟨F1, ρ, g1, s1, PostO.bind s1 h1 fun y g2 u F2 H2 e2 s2 r2 h2 => by
    split at h2
    · obtain ⟨a, vs, rfl, q1, q2⟩ := (r1.mono e2.f).list
      cases r2.int
      obtain ⟨⟨hl1, hl2, hl3⟩, h2⟩ := h2.ite
      have hl1' : _ ≤ (1000000 : Int) := hl1
      exact ⟨a, _, vs, rfl, rfl, s2.fh _ _ q1, by omega, by omega, lim_ok (by rw [q2.len]; exact hl3), fun p n => h2.new s2 n (q2.rep _)⟩
    · exact h2.elim⟩⟩
def oSl (fa : EF) (fl fh : OF) : OF' := fun ρ g => (fa ρ g).bind fun x g1 => (fl ρ g1).bind fun lo g2 => (fh ρ g2).bind fun hi g3 => match x with
  | .list xs => .ok (cutD xs lo hi) g3
  | _ => .bad
theorem o_sl {lo hi : Option Expr} {fl fh : OF} {p2 : Pos} (ha : DE X c W a fa) (hl : DO X c W lo fl) (hh : DO X c W hi fh) : DEo X c W (.Subscript a (.Slice lo hi none p2) pos) (oSl fa fl fh) :=
  PE.imp (pe_slice sl_list ha hl hh) fun σ H Q ⟨F, ρ, g, s, h⟩ => ⟨F, ρ, g, s, PostO.bind s h fun x g1 v F1 H1 e1 s1 r1 h1 => ⟨F1, ρ, g1, s1, PostO.bind s1 h1 fun l g2 u F2 H2 e2 s2 r2 h2 => ⟨F2, ρ, g2, s2, PostO.bind s2 h2 fun hv g3 w F3 H3 e3 s3 r3 h3 => by
    cases r2
    cases r3
    cases x with
    | list xs =>
      obtain ⟨p, vs, rfl, q1, q2⟩ := ((r1.mono e2.f).mono e3.f).list
      exact ⟨p, vs, rfl, SqL.of (s3.fh _ _ q1), fun q n => h3.new s3 n (cut_rq q2 _ _)⟩
    | _ => exact h3.elim⟩⟩⟩
def oList (fs : AF) : OF' := fun ρ g => (fs ρ g).bind fun ds g1 => match ds with
  | [.list xs] => .ok xs g1
  | [.tuple xs] => .ok xs g1
  | _ => .bad
theorem o_list (hK : c.K = X.K) (hg : Gl X "list") (hm : X.mg "list" = none) (ha : DA X c W (e :: es) fs)
    (he : starEach (e :: es) X.env = (false, eval e X.env) :: starEach es X.env := by rfl) (hpl : (backTo pos (starEach es X.env)).any (·.1) = false := by rfl) : DEo X c W (.Call (.Name "list" p) (e :: es) [] pos) (oList fs) :=
  PE.imp (pe_callTy call_list_of hg hm (by decide +kernel) ha (by decide) (by decide) he hpl) fun σ H Q ⟨F, ρ, g, s, h⟩ => ⟨F, ρ, g, s, PostO.bind s h fun ds g1 vs F1 H1 e1 s1 r1 h1 => by
    split at h1
    · obtain ⟨v, rfl, rv⟩ := rep1 r1
      obtain ⟨a, vs, rfl, q1, q2⟩ := rv.list
      exact ⟨a, vs, rfl, .inl (SqL.of (s1.fh _ _ q1)), fun p n => h1.new s1 n q2⟩
    · obtain ⟨v, rfl, rv⟩ := rep1 r1
      obtain ⟨a, vs, rfl, q1, q2⟩ := rv.tuple
      exact ⟨a, vs, rfl, .inr (by rw [← hK]; exact seqT_mono s1.fh q1), fun p n => h1.new s1 n q2⟩
    · exact h1.elim⟩
end
abbrev W0 : WX := fun _ _ _ _ => False
def compF (b : BF) (ft : TF) (fe : EF) (ρ : RS) : List D → G → Out (List D)
  | [], g => .ok [] g
  | x :: xs, g => match b x ρ with
    | none => .bad
    | some ρ1 => match ft ρ1 g with
      | .ok true g1 => (match fe ρ1 g1 with
        | .ok d g2 => if noTok [d] = true then (compF b ft fe ρ xs g2).bind fun r g3 => .ok (d :: r) g3 else .bad
        | _ => .bad)
      | .ok false g1 => compF b ft fe ρ xs g1
      | _ => .bad
def oComp (vs : List Nat) (fi : LF) (b : BF) (ft : TF) (fe : EF) : OF' := fun ρ g => (fi ρ g).bind fun items g1 => if items.length ≤ LIM then compF b ft fe (wipeR ρ vs) items g1 else .bad
def tts (c : Ctx) (W : WX) (f : TF) : TT := tT c W f
def tYesF : TF := fun _ g => .ok true g
section
variable {X : Cx} {c : Ctx} {W : WX} {pos p : Pos} {tg iter elt e : Expr} {ifs : List Expr} {scope : Scope} {own : List (Str × Nat)} {fi : LF} {b : BF} {ft : TF} {fe : EF}
theorem dts_nil : PTs X [] (tT c W tYesF) := by
  have h := @pts_nil X
  exact ⟨fun pins s σ H Q I ⟨F, ρ, g, sr, q⟩ => h.run pins s σ H Q I (q.now sr rfl)⟩
theorem dts_one (h : DT X c W e ft) : PTs X [e] (tT c W ft) := pts_one h
theorem PostG.none {α β : Type} {c : Ctx} {σ : L2.St} {R : Hp → β → α → Prop} {o : Out α} {F H : Hp} {Q : β → Hp → Prop} (h : match o with | .ok a g => ∀ b F' H', Ext c.sa c.sb F H F' H' → GOk c F' H' g → R F' b a → Q b H' | _ => False) : PostG c σ R o F H W0 Q := by
  cases o with
  | ok a g => exact h
  | exc n fs g => exact h.elim
  | bad => exact h
structure Mid (c : Ctx) (F1 H1 F H : Hp) (g : G) (A : Addr) (acc : List D) (full : Out (List D)) (rest : Out (List D)) (va : List V) : Prop where
  ext : Ext c.sa c.sb F1 H1 F H
  gok : GOk c F H g
  ha : H A = some (.lst va)
  fa : F A = none
  rq : RqAll c.K F va acc
  eq : full = rest.bind fun r g => .ok (acc ++ r) g
theorem wipe_in {σ : L2.St} {i : Nat} : ∀ {vs : List Nat}, i ∈ vs → i < σ.length → (L2.wipe σ vs)[i]? = some none
  | v :: vs, h, hl => by
    unfold L2.wipe
    by_cases e : v = i
    · subst e
      rw [List.getElem?_set_self (by rw [L2.wipe_length]; exact hl)]
    · rw [List.getElem?_set_ne e]
      exact wipe_in ((List.mem_cons.mp h).resolve_left fun z => e z.symm) hl
theorem But.wipe {is vs : List Nat} {σ σ2 : L2.St} (h : But is (L2.wipe σ vs) σ2) (sub : ∀ i ∈ is, i ∈ vs) : L2.wipe σ2 vs = L2.wipe σ vs := by
  refine List.ext_getElem? fun j => ?_
  by_cases hj : j ∈ vs
  · by_cases hl : j < σ.length
    · rw [wipe_in hj hl, wipe_in hj (by rw [h.1, L2.wipe_length]; exact hl)]
    · have l1 : (L2.wipe σ2 vs).length = σ.length := by rw [L2.wipe_length, h.1, L2.wipe_length]
      have l2 : (L2.wipe σ vs).length = σ.length := L2.wipe_length _ _
      rw [List.getElem?_eq_none (by omega), List.getElem?_eq_none (by omega)]
  · rw [L2.wipe_out hj]
    exact h.2 j fun z => hj (sub j z)
theorem lc_post {σ : L2.St} {ρ : RS} {items : List D} {vs is : List Nat} {F1 H1 : Hp} {g1 : G} {W : WX} {Q : VK} {J : It} {A : Addr} (s1 : SR c F1 H1 σ ρ g1) (hJ : IterR c F1 J items) (hl : items.length ≤ LIM) (nA : H1 A = none) (sub : ∀ i ∈ is, i ∈ vs)
    (h : PostO c σ (compF b ft fe (wipeR ρ vs) items g1) F1 H1 W Q) :
    ∃ Wv : Nat → Nat → Hp → Prop, (∃ m, Wv 0 m (upd H1 A (.lst []))) ∧ ∀ i m H, Wv i m H → (J.stop i H ∧ Q (.ref A) H) ∨ (J.go i H ∧ ∃ Nx : Hp → Prop, (∀ H', Nx H' → ∃ m', m' < m ∧ Wv (i + 1) m' H') ∧ ∀ x H', J.yld i H x H' → tG c is b x (wipe σ vs) H' fun σ2 H2 => wipe σ2 vs = wipe σ vs ∧ tT c W0 ft σ2 H2 fun k H3 =>
      if k = true then tE c W0 fe σ2 H3 fun y H4 => ∃ acc, H4 A = some (.lst acc) ∧ acc.length < sizeLine ∧ Nx (upd H4 A (.lst (acc ++ [y]))) else Nx H3) := by
  refine ⟨fun i m H => ∃ F g va acc, m = items.length - i ∧ i ≤ items.length ∧ acc.length ≤ i ∧ Mid c F1 H1 F H g A acc (compF b ft fe (wipeR ρ vs) items g1) (compF b ft fe (wipeR ρ vs) (items.drop i) g) va,
    ⟨items.length, F1, g1, [], [], by omega, Nat.zero_le _, Nat.zero_le _, Ext.newM s1.fh nA, s1.gok.newM nA, upd_same, s1.fnone nA, .nil, ?_⟩, ?_⟩
  · rw [List.drop_zero]
    cases compF b ft fe (wipeR ρ vs) items g1 <;> rfl
  rintro i m H ⟨F, g, va, acc, rfl, hi, hacc, M⟩
  have sm : Same F1 H := M.ext.f.trans M.ext.fh
  by_cases hlt : i < items.length
  · have hd : items[i]? = some items[i] := List.getElem?_eq_getElem hlt
    have hdr : items.drop i = items[i] :: items.drop (i + 1) := List.drop_eq_getElem_cons hlt
    obtain ⟨go, yl⟩ := (hJ i H sm).1 _ hd
    have eq := M.eq
    rw [hdr] at eq
    refine .inr ⟨go, _, fun H' h => h, fun x H' y => ?_⟩
    obtain ⟨rfl, rx⟩ := yl x H' y
    have sw : SR c F H' (wipe σ vs) (wipeR ρ vs) g := (s1.wipe vs).ext' M.ext M.gok
    have nas : A ≠ c.sa := (ne_of_none s1.gok.ha nA).symm
    have nab : A ≠ c.sb := (ne_of_none s1.gok.hb nA).symm
    simp only [compF] at eq
    cases hb : b items[i] (wipeR ρ vs) with
    | none => simp only [hb, Out.bind] at eq; rw [eq] at h; exact h.elim
    | some ρ1 =>
      simp only [hb] at eq
      refine ⟨F, wipeR ρ vs, g, items[i], ρ1, sw, rx.mono M.ext.f, hb, fun σ2 s2 b2 => ⟨b2.wipe sub, F, ρ1, g, s2, ?_⟩⟩
      cases ht : ft ρ1 g with
      | bad => simp only [ht, Out.bind] at eq; rw [eq] at h; exact h.elim
      | exc n fs g2 => simp only [ht, Out.bind] at eq; rw [eq] at h; exact h.elim
      | ok k g2 =>
        intro k' F2 H2 e2 gk2 rk
        cases rk
        have s3 := s2.ext' e2 gk2
        have hA2 : H2 A = some (.lst va) := e2.keep A _ M.ha nas nab
        have fA2 : F2 A = none := by rw [e2.ff A _ M.ha]; exact M.fa
        cases k with
        | false =>
          simp only [ht] at eq
          rw [if_neg Bool.false_ne_true]
          exact ⟨items.length - (i + 1), by omega, F2, g2, va, acc, rfl, hlt, by omega, M.ext.trans e2, gk2, hA2, fA2, RqAll_mono e2.f _ _ M.rq, eq⟩
        | true =>
          simp only [ht] at eq
          rw [if_pos rfl]
          refine ⟨F2, ρ1, g2, s3, ?_⟩
          cases he : fe ρ1 g2 with
          | bad => simp only [he, Out.bind] at eq; rw [eq] at h; exact h.elim
          | exc n fs g3 => simp only [he, Out.bind] at eq; rw [eq] at h; exact h.elim
          | ok d g3 =>
            simp only [he] at eq
            intro y F3 H3 e3 gk3 ry
            have hA3 : H3 A = some (.lst va) := e3.keep A _ hA2 nas nab
            have fA3 : F3 A = none := by rw [e3.ff A _ hA2]; exact fA2
            by_cases hn : noTok [d] = true
            · rw [if_pos hn] at eq
              refine ⟨va, hA3, lim_lt (by rw [M.rq.len]; omega), items.length - (i + 1), by omega, F3, g3, va ++ [y], acc ++ [d], rfl, hlt, by rw [List.length_append, List.length_singleton]; omega, ?_, ?_, upd_same, fA3, ?_, ?_⟩
              · have e4 := (M.ext.trans e2).trans e3
                refine ⟨e4.f, fun q o z => ?_, fun q o z n m => ?_, fun q o z => ?_, e4.ff⟩
                · rw [upd_ne (ne_of_none z fA3)]; exact e4.fh q o z
                · rw [upd_ne (ne_of_none z nA)]; exact e4.keep q o z n m
                · rw [upd_ne (ne_of_none z nA)]; exact e4.dom q o z
              · exact gk3.ext rfl rfl (upd_ne nas.symm) (upd_ne nab.symm)
              · have rd := RepAll.rq (RepAll.cons ry .nil) hn
                exact (RqAll_mono (e2.f.trans e3.f) _ _ M.rq).append rd
              · rw [eq]
                cases compF b ft fe (wipeR ρ vs) (items.drop (i + 1)) g3 with
                | bad => rfl
                | exc n fs g4 => rfl
                | ok r g4 => simp only [Out.bind, List.append_assoc, List.singleton_append]
            · rw [if_neg hn] at eq
              simp only [Out.bind] at eq
              rw [eq] at h
              exact h.elim
  · have e : i = items.length := by omega
    have eq := M.eq
    rw [e, List.drop_length] at eq
    simp only [compF, Out.bind, List.append_nil] at eq
    rw [eq] at h
    exact .inl ⟨(hJ i H sm).2 (by omega), h A va F H M.ext M.gok M.ha M.fa nA M.rq⟩
theorem lc_imp {is : List Nat} (sub : ∀ i ∈ is, i ∈ own.map (·.2)) (σ : L2.St) (H : Hp) (Q : VK) (w : tEo c W (oComp (own.map (·.2)) fi b ft fe) σ H Q) : tLc (tI c W fi) (tG c is b) (tT c W0 ft) (tE c W0 fe) (own.map (·.2)) σ H Q := by
  obtain ⟨F, ρ, g, s, h⟩ := w
  exact ⟨F, ρ, g, s, PostO.bind s h fun items g1 J F1 H1 e1 s1 r1 h1 => by
    obtain ⟨hl, h1⟩ := h1.ite
    exact fun A nA => lc_post s1 r1 hl nA sub h1⟩
theorem o_lc {is : List Nat} (hc : X.calm = true) (hN : X.N.Nodup) (hi : DI X c W tg iter fi) (ok : BlkOk X.N X.env.scope scope own) (sub : ∀ i ∈ is, i ∈ own.map (·.2))
    (hg : ∀ (s : Shared) (H : Hp) (C : Addr) (cl : List (Str × Addr)) (fp : List Addr), DG (X.blk s H scope (compEnvC scope cl C X.env) fp) c is tg b) (ht : ∀ (s : Shared) (H : Hp) (C : Addr) (cl : List (Str × Addr)) (fp : List Addr), PTs (X.blk s H scope (compEnvC scope cl C X.env) fp) ifs (tT c W0 ft))
    (he : ∀ (s : Shared) (H : Hp) (C : Addr) (cl : List (Str × Addr)) (fp : List Addr), DE (X.blk s H scope (compEnvC scope cl C X.env) fp) c W0 elt fe) (hs : ∀ x, foldedSetIterable iter X.env x = pure x := by intro _; rfl) :
    DEo X c W (.ListComp elt [⟨tg, iter, ifs, 0⟩] scope pos) (oComp (own.map (·.2)) fi b ft fe) :=
  PE.imp (pe_lc hc hN hi ok hg ht he hs) (lc_imp sub)
theorem of_imp {f : OF'} (σ : L2.St) (H : Hp) (Q : VK) (w : tE c W (eOf f) σ H Q) : tEo c W f σ H Q := by
  obtain ⟨F, ρ, g, s, h⟩ := w
  refine ⟨F, ρ, g, s, ?_⟩
  unfold eOf at h
  cases q : f ρ g with
  | bad => rw [q] at h; exact h
  | exc n fs g1 => rw [q] at h; exact h
  | ok ds g1 =>
    rw [q] at h
    intro p vs F' H' e gk h1 h2 h3 h4
    have sm : Same F' (upd F' p (.lst vs)) := fun b o q => by rw [upd_ne (ne_of_none q h2)]; exact q
    have n1 : c.sa ≠ p := ne_of_none s.gok.ha h3
    have n2 : c.sb ≠ p := ne_of_none s.gok.hb h3
    refine h (.ref p) (upd F' p (.lst vs)) H' ⟨e.f.trans sm, fun b o q => ?_, e.keep, e.dom, fun b o q => ?_⟩ (gk.ext (upd_ne n1) (upd_ne n2) rfl rfl) (.inl (.lst upd_same (RqAll_mono sm _ _ h4)))
    · by_cases hb : b = p
      · subst hb; rw [upd_same] at q; cases q; exact h1
      · rw [upd_ne hb] at q; exact e.fh b o q
    · rw [upd_ne (ne_of_none q h3)]; exact e.ff b o q
theorem d_ofO {f : OF'} (h : DEo X c W e f) : DE X c W e (eOf f) := PE.imp h of_imp
end
end DL
namespace DL
open PySem
open PySem.Spec
open PyProof.Rows
open L2
def SPost (c : Ctx) (o : SO) (F : Hp) (W : WX) (E : Ends) : Prop := match o with
  | .nx ρ g => ∀ σ' F' H', Same F F' → SR c F' H' σ' ρ g → E.nx σ' H'
  | .rt d g => ∀ σ' ρ' v F' H', Same F F' → SR c F' H' σ' ρ' g → Rep c F' v d → E.rt v H'
  | .bk ρ g => ∀ σ' F' H', Same F F' → SR c F' H' σ' ρ g → E.bk σ' H'
  | .ct ρ g => ∀ σ' F' H', Same F F' → SR c F' H' σ' ρ g → E.ct σ' H'
  | .exc n fs ρ g => ∀ C dx vs σ' F' H', Same F F' → SR c F' H' σ' ρ g → c.cl n = some C → H' dx = some (.xd vs) → FldR c F' vs fs → W (.ref C) (some dx) σ' H'
  | .bad => False
theorem SPost.up {c : Ctx} {o : SO} {F F' : Hp} {W : WX} {E : Ends} (h : SPost c o F W E) (e : Same F F') : SPost c o F' W E := by
  cases o with
  | nx ρ g => exact fun σ1 F1 H1 s => h σ1 F1 H1 (e.trans s)
  | rt d g => exact fun σ1 ρ1 v F1 H1 s => h σ1 ρ1 v F1 H1 (e.trans s)
  | bk ρ g => exact fun σ1 F1 H1 s => h σ1 F1 H1 (e.trans s)
  | ct ρ g => exact fun σ1 F1 H1 s => h σ1 F1 H1 (e.trans s)
  | exc n fs ρ g => exact fun C dx vs σ1 F1 H1 s => h C dx vs σ1 F1 H1 (e.trans s)
  | bad => exact h
def tS (c : Ctx) (W : WX) (f : SF) : TS := fun E σ H => ∃ F ρ g, SR c F H σ ρ g ∧ SPost c (f ρ g) F W E
abbrev DS (X : Cx) (c : Ctx) (W : WX) (st : Stmt) (f : SF) : Prop := PS X st (tS c W f)
abbrev DSs (X : Cx) (c : Ctx) (W : WX) (sts : List Stmt) (f : SF) : Prop := PSs X sts (tS c W f)
theorem go_post {α β : Type} {c : Ctx} {σ : L2.St} {ρ : RS} {g0 : G} {R : Hp → β → α → Prop} {o : Out α} {k : α → G → SO} {F H : Hp} {W : WX} {Q : β → Hp → Prop} {E : Ends}
    (s0 : SR c F H σ ρ g0) (h : SPost c (o.go ρ k) F W E) (q : ∀ a g b F1 H1, Ext c.sa c.sb F H F1 H1 → SR c F1 H1 σ ρ g → R F1 b a → SPost c (k a g) F1 W E → Q b H1) : PostG c σ R o F H W Q := by
  cases o with
  | ok a g => exact fun b F1 H1 e gk r => q a g b F1 H1 e (s0.ext' e gk) r (SPost.up (show SPost c (k a g) F W E from h) e.f)
  | exc n fs g => exact fun C dx vs F1 H1 e gk hc hd hf => h C dx vs σ F1 H1 e.f (s0.ext' e gk) hc hd hf
  | bad => exact h
theorem go_postO {c : Ctx} {σ : L2.St} {ρ : RS} {g0 : G} {o : Out (List D)} {k : List D → G → SO} {F H : Hp} {W : WX} {Q : VK} {E : Ends}
    (s0 : SR c F H σ ρ g0) (h : SPost c (o.go ρ k) F W E) (q : ∀ ds g p vs F1 H1, Ext c.sa c.sb F H F1 H1 → SR c F1 H1 σ ρ g → H1 p = some (.lst vs) → F1 p = none → H p = none → RqAll c.K F1 vs ds → SPost c (k ds g) F1 W E → Q (.ref p) H1) : PostO c σ o F H W Q := by
  cases o with
  | ok a g => exact fun p vs F1 H1 e gk h1 h2 h3 h4 => q a g p vs F1 H1 e (s0.ext' e gk) h1 h2 h3 h4 (SPost.up (show SPost c (k a g) F W E from h) e.f)
  | exc n fs g => exact fun C dx vs F1 H1 e gk hc hd hf => h C dx vs σ F1 H1 e.f (s0.ext' e gk) hc hd hf
  | bad => exact h
theorem SPost.nx' {c : Ctx} {ρ : RS} {g : G} {F H : Hp} {W : WX} {E : Ends} {σ : L2.St} (h : SPost c (.nx ρ g) F W E) (s : SR c F H σ ρ g) : E.nx σ H := h σ F H (Same.refl F) s
def sNil : SF := fun ρ g => .nx ρ g
def sSeq (f k : SF) : SF := fun ρ g => match f ρ g with
  | .nx ρ' g' => k ρ' g'
  | o => o
section
variable {X : Cx} {c : Ctx} {W : WX} {pos : Pos} {e : Expr} {fe : EF} {st : Stmt} {sts : List Stmt} {f k : SF} {tb : TF}
theorem dss_nil : DSs X c W [] sNil := PSs.imp pss_nil fun E σ H ⟨F, ρ, g, s, h⟩ => h.nx' s
theorem seq_post {c : Ctx} {o : SO} {k : SF} {F : Hp} {W : WX} {E : Ends} (h : SPost c (match o with | .nx ρ' g' => k ρ' g' | o => o) F W E) : SPost c o F W { E with nx := tS c W k E } := by
  cases o with
  | nx ρ g => exact fun σ1 F1 H1 s sr => ⟨F1, ρ, g, sr, SPost.up h s⟩
  | rt d g => exact h
  | bk ρ g => exact h
  | ct ρ g => exact h
  | exc n fs ρ g => exact h
  | bad => exact h
theorem dss_cons (h1 : DS X c W st f) (h2 : DSs X c W sts k) : DSs X c W (st :: sts) (sSeq f k) := PSs.imp (pss_cons h1 h2) fun E σ H ⟨F, ρ, g, s, h⟩ => ⟨F, ρ, g, s, seq_post h⟩
theorem dss_one (h1 : DS X c W st f) : DSs X c W [st] f := pss_one h1
theorem ds_pass : DS X c W (.Pass pos) sNil := PS.imp ps_pass fun E σ H ⟨F, ρ, g, s, h⟩ => h.nx' s
def sBrk : SF := fun ρ g => .bk ρ g
def sCnt : SF := fun ρ g => .ct ρ g
theorem ds_break : DS X c W (.Break pos) sBrk := PS.imp ps_break fun E σ H ⟨F, ρ, g, s, h⟩ => h σ F H (Same.refl F) s
theorem ds_continue : DS X c W (.Continue pos) sCnt := PS.imp ps_continue fun E σ H ⟨F, ρ, g, s, h⟩ => h σ F H (Same.refl F) s
def sExpr (fe : EF) : SF := fun ρ g => (fe ρ g).go ρ fun _ g1 => .nx ρ g1
theorem ds_expr (he : DE X c W e fe) (hs : swapsWith e none pos.line X.env = pure false := by rfl) : DS X c W (.Expr e pos) (sExpr fe) := PS.imp (ps_expr he hs) fun E σ H ⟨F, ρ, g, s, h⟩ => ⟨F, ρ, g, s, go_post s h fun x g1 v F1 H1 e1 s1 r1 h1 => h1.nx' s1⟩
def sRet (fe : EF) : SF := fun ρ g => (fe ρ g).go ρ fun d g1 => .rt d g1
theorem ds_ret (he : DE X c W e fe) : DS X c W (.Return (some e) pos) (sRet fe) := PS.imp (ps_ret he) fun E σ H ⟨F, ρ, g, s, h⟩ => ⟨F, ρ, g, s, go_post s h fun x g1 v F1 H1 e1 s1 r1 h1 => h1 σ ρ v F1 H1 (Same.refl _) s1 r1⟩
def sRetN : SF := fun _ g => .rt .none g
theorem ds_retN : DS X c W (.Return none pos) sRetN := PS.imp ps_retN fun E σ H ⟨F, ρ, g, s, h⟩ => h σ ρ .non F H (Same.refl _) s rNon
def sIf (t : TF) (f k : SF) : SF := fun ρ g => (t ρ g).go ρ fun b g1 => if b = true then f ρ g1 else k ρ g1
theorem ds_if {a b : List Stmt} (ht : DT X c W e tb) (ha : DSs X c W a f) (hb : DSs X c W b k) : DS X c W (.If e a b pos) (sIf tb f k) := PS.imp (ps_if ht ha hb) fun E σ H ⟨F, ρ, g, s, h⟩ => ⟨F, ρ, g, s, go_post s h fun x g1 v F1 H1 e1 s1 r1 h1 => by
  cases r1
  cases x with
  | true => exact ⟨F1, ρ, g1, s1, h1⟩
  | false => exact ⟨F1, ρ, g1, s1, h1⟩⟩
def sSet (i : Nat) (fe : EF) : SF := fun ρ g => (fe ρ g).go ρ fun d g1 => .nx (ρ.set i (.d d)) g1
theorem ds_set {i : Nat} (h : PS X st (tAsg (tE c W fe) (gName i))) : DS X c W st (sSet i fe) := PS.imp h fun E σ H ⟨F, ρ, g, s, h⟩ => ⟨F, ρ, g, s, go_post s h fun x g1 v F1 H1 e1 s1 r1 h1 => h1.nx' (s1.setD r1 i)⟩
def sSetO (i : Nat) (fo : OF') : SF := fun ρ g => (fo ρ g).go ρ fun ds g1 => .nx (ρ.set i (.own ds)) g1
theorem ds_setO {i : Nat} {fo : OF'} (h : PS X st (tAsg (tEo c W fo) (gName i))) : DS X c W st (sSetO i fo) := PS.imp h fun E σ H ⟨F, ρ, g, s, h⟩ => ⟨F, ρ, g, s, go_postO s h fun ds g1 p vs F1 H1 e1 s1 q1 q2 q3 q4 h1 => by
  refine h1.nx' (s1.setO q1 q2 ?_ q4 (fun j ys hj hp => ?_) i)
  · cases z : c.H0 p with
    | none => rfl
    | some o =>
      obtain ⟨o', z'⟩ := s.ext.dom p o z
      rw [q3] at z'
      cases z'
  · obtain ⟨a, vs', k1, k2, _⟩ := s.own hj
    rw [hp] at k1
    cases k1
    rw [q3] at k2
    cases k2⟩
def sAsg (b : BF) (fe : EF) : SF := fun ρ g => (fe ρ g).go ρ fun d g1 => match b d ρ with
  | some ρ' => .nx ρ' g1
  | none => .bad
theorem ds_asg {tg : Expr} {is : List Nat} {b : BF} (he : DE X c W e fe) (hg : DG X c is tg b) (hs : swapsWithSole [tg] e pos.line X.env = pure false := by rfl) (hw : swappedStores [tg] e X.env = pure none := by rfl)
    (h1 : (assignEach [tg] X.env).map (·.2) = [assign tg X.env] := by rfl) : DS X c W (.Assign [tg] e pos) (sAsg b fe) := PS.imp (ps_asg he hg hs hw h1) fun E σ H ⟨F, ρ, g, s, h⟩ => ⟨F, ρ, g, s, go_post s h fun x g1 v F1 H1 e1 s1 r1 h1 => by
  cases q : b x ρ with
  | none => simp only [q] at h1; exact h1.elim
  | some ρ' =>
    simp only [q] at h1
    exact ⟨F1, ρ, g1, x, ρ', s1, r1, q, fun σ2 s2 _ => h1.nx' s2⟩⟩
def sPar (i j : Nat) (fs : AF) : SF := fun ρ g => (fs ρ g).go ρ fun ds g1 => match ds with
  | [x, y] => .nx ((ρ.set i (.d x)).set j (.d y)) g1
  | _ => .bad
theorem ds_par {i j : Nat} {fs : AF} (h : PS X st (tPar i j (tAr c W fs))) : DS X c W st (sPar i j fs) := PS.imp h fun E σ H ⟨F, ρ, g, s, h⟩ => ⟨F, ρ, g, s, go_post s h fun ds g1 vs F1 H1 e1 s1 r1 h1 => by
  split at h1
  · obtain ⟨v, v', rfl, rv, rv'⟩ := rep2 r1
    exact ⟨v, v', rfl, h1.nx' ((s1.setD rv i).setD rv' j)⟩
  · exact h1.elim⟩
theorem rep3 {c : Ctx} {F : Hp} {vs : List V} {d d' d'' : D} (h : RepAll c F vs [d, d', d'']) : ∃ v v' v'', vs = [v, v', v''] ∧ Rep c F v d ∧ Rep c F v' d' ∧ Rep c F v'' d'' := by
  cases h with
  | cons h t => cases t with
    | cons h' t => cases t with
      | cons h'' t => cases t; exact ⟨_, _, _, rfl, h, h', h''⟩
def sPar3 (i j l : Nat) (fs : AF) : SF := fun ρ g => (fs ρ g).go ρ fun ds g1 => match ds with
  | [x, y, z] => .nx (((ρ.set i (.d x)).set j (.d y)).set l (.d z)) g1
  | _ => .bad
theorem ds_par3 {i j l : Nat} {fs : AF} (h : PS X st (tPar3 i j l (tAr c W fs))) : DS X c W st (sPar3 i j l fs) := PS.imp h fun E σ H ⟨F, ρ, g, s, h⟩ => ⟨F, ρ, g, s, go_post s h fun ds g1 vs F1 H1 e1 s1 r1 h1 => by
  split at h1
  · obtain ⟨v, v', v'', rfl, rv, rv', rv''⟩ := rep3 r1
    exact ⟨v, v', v'', rfl, h1.nx' (((s1.setD rv i).setD rv' j).setD rv'' l)⟩
  · exact h1.elim⟩
def sAug (i : Nat) (φ : Int → Int → Int) (fe : EF) : SF := fun ρ g => match ρ[i]? with
  | some (.d (.int a)) => (fe ρ g).go ρ fun d g1 => match d with
    | .int b => .nx (ρ.set i (.d (.int (φ a b)))) g1
    | _ => .bad
  | _ => .bad
theorem ds_aug {i : Nat} {φ : Int → Int → Int} (h : PS X st (tAug i (tE c W fe) (ipI φ))) : DS X c W st (sAug i φ fe) := PS.imp h fun E σ H ⟨F, ρ, g, s, h⟩ => by
  unfold sAug at h
  split at h
  · rename_i a hi
    obtain ⟨v, hv, rv⟩ := s.slots i _ hi
    cases rv.int
    refine ⟨_, hv, F, ρ, g, s, go_post s h fun x g1 v F1 H1 e1 s1 r1 h1 => ?_⟩
    cases x with
    | int b => cases r1.int; exact ⟨a, b, rfl, rfl, h1.nx' (s1.setD rInt i)⟩
    | _ => exact h1.elim
  · exact h.elim
def sApp (i : Nat) (fe : EF) : SF := fun ρ g => match ρ[i]? with
  | some (.own xs) => (fe ρ g).go ρ fun d g1 => if xs.length < LIM ∧ noTok [d] = true then .nx (ρ.set i (.own (xs ++ [d]))) g1 else .bad
  | _ => .bad
theorem SPost.ite {c : Ctx} {p : Prop} [Decidable p] {o : SO} {F : Hp} {W : WX} {E : Ends} (h : SPost c (if p then o else .bad) F W E) : p ∧ SPost c o F W E := by
  by_cases hp : p
  · rw [if_pos hp] at h; exact ⟨hp, h⟩
  · rw [if_neg hp] at h; exact h.elim
theorem ds_app {i : Nat} (h : PS X st (tDrop (tBM X.K "list" rAppend (tVar i) (tCons (tE c W fe) tNil)))) : DS X c W st (sApp i fe) := PS.imp h fun E σ H ⟨F, ρ, g, s, h⟩ => by
  unfold sApp at h
  split at h
  · rename_i xs hi
    obtain ⟨a, vs, k1, k2, k3, k4, k5⟩ := s.own hi
    refine ⟨_, k1, .inl ⟨rfl, vs, SqL.of k2⟩, F, ρ, g, s, go_post s h fun x g1 v F1 H1 e1 s1 r1 h1 => ?_⟩
    obtain ⟨⟨hl, hn⟩, h1⟩ := h1.ite
    obtain ⟨a', vs', m1, m2, m3, m4, m5⟩ := s1.own hi
    rw [k1] at m1
    cases m1
    exact ⟨a, vs', v, rfl, rfl, m2, lim_lt (by rw [m3.len]; exact hl), h1.nx' (s1.updO hi k1 m2 m4 m5 (m3.append (RepAll.rq (.cons r1 .nil) hn)))⟩
  · exact h.elim
def sExt (i : Nat) (fe : EF) : SF := fun ρ g => match ρ[i]? with
  | some (.own xs) => (fe ρ g).go ρ fun d g1 => match d with
    | .list ys => if xs.length + ys.length ≤ LIM then .nx (ρ.set i (.own (xs ++ ys))) g1 else .bad
    | _ => .bad
  | _ => .bad
theorem ds_ext {i : Nat} (h : PS X st (tDrop (tBM X.K "list" rExtend (tVar i) (tCons (tE c W fe) tNil)))) : DS X c W st (sExt i fe) := PS.imp h fun E σ H ⟨F, ρ, g, s, h⟩ => by
  unfold sExt at h
  split at h
  · rename_i xs hi
    obtain ⟨a, vs, k1, k2, k3, k4, k5⟩ := s.own hi
    refine ⟨_, k1, .inl ⟨rfl, vs, SqL.of k2⟩, F, ρ, g, s, go_post s h fun x g1 v F1 H1 e1 s1 r1 h1 => ?_⟩
    cases x with
    | list ys =>
      obtain ⟨hl, h1⟩ := h1.ite
      obtain ⟨b, ws, rfl, q1, q2⟩ := r1.list
      obtain ⟨a', vs', m1, m2, m3, m4, m5⟩ := s1.own hi
      rw [k1] at m1
      cases m1
      exact ⟨a, b, vs', ws, rfl, rfl, m2, s1.fh _ _ q1, lim_ok (by rw [m3.len, q2.len]; exact hl), h1.nx' (s1.updO hi k1 m2 m4 m5 (m3.append q2))⟩
    | _ => exact h1.elim
  · exact h.elim
def sSetIx (i : Nat) (fe fj : EF) : SF := fun ρ g => match ρ[i]? with
  | some (.own xs) => (fe ρ g).go ρ fun d g1 => (fj ρ g1).go ρ fun j g2 => match j with
    | .int n => match ixN xs.length n with
      | some m => if noTok [d] = true then .nx (ρ.set i (.own (xs.set m d))) g2 else .bad
      | none => .bad
    | _ => .bad
  | _ => .bad
theorem ds_setIx {i : Nat} {fj : EF} (h : PS X st (tAsg (tE c W fe) (gSub (tVar i) (tE c W fj) rSetL))) : DS X c W st (sSetIx i fe fj) := PS.imp h fun E σ H ⟨F, ρ, g, s, h⟩ => by
  unfold sSetIx at h
  split at h
  · rename_i xs hi
    refine ⟨F, ρ, g, s, go_post s h fun d g1 v F1 H1 e1 s1 r1 h1 => ?_⟩
    obtain ⟨a, vs, k1, k2, k3, k4, k5⟩ := s1.own hi
    refine ⟨_, k1, F1, ρ, g1, s1, go_post s1 h1 fun j g2 u F2 H2 e2 s2 r2 h2 => ?_⟩
    obtain ⟨a', vs', m1, m2, m3, m4, m5⟩ := s2.own hi
    rw [k1] at m1
    cases m1
    cases j with
    | int n =>
      cases r2.int
      simp only at h2
      split at h2
      · rename_i m hm
        obtain ⟨hn, h2⟩ := h2.ite
        refine ⟨a, vs', n, m, rfl, rfl, m2, by rw [m3.len]; exact hm, h2.nx' (s2.updO hi k1 m2 m4 m5 ?_)⟩
        have rr := RepAll.rq (RepAll.cons (r1.mono e2.f) .nil) hn
        cases rr with
        | cons q _ => exact RqAll.set q m m3
      · exact h2.elim
    | _ => exact h2.elim
  · exact h.elim
def sFrz (i : Nat) (f : SF) : SF := fun ρ g => match ρ[i]? with
  | some (.own xs) => f (ρ.set i (.d (.list xs))) g
  | _ => f ρ g
theorem dss_frz {i : Nat} (h : DSs X c W sts f) : DSs X c W sts (sFrz i f) := PSs.imp h fun E σ H ⟨F, ρ, g, s, h⟩ => by
  unfold sFrz at h
  split at h
  · rename_i xs hi
    obtain ⟨a, vs, k1, k2, k3, k4, k5⟩ := s.own hi
    exact ⟨_, _, g, s.freeze hi k1 k2 k4 k5 k3, SPost.up h fun b o q => by rw [upd_ne (ne_of_none q k4)]; exact q⟩
  · exact ⟨F, ρ, g, s, h⟩
def eIxO (i : Nat) (fj : EF) : EF := fun ρ g => match ρ[i]? with
  | some (.own xs) => (fj ρ g).bind fun j g1 => match j with
    | .int n => match atI xs n with
      | some d => .ok d g1
      | none => .bad
    | _ => .bad
  | _ => .bad
theorem d_ixO {i : Nat} {fj : EF} {a b : Expr} (h : PE X (.Subscript a b pos) (tOp (rIx X.K) (tVar i) (tE c W fj))) : DE X c W (.Subscript a b pos) (eIxO i fj) := PE.imp h fun σ H Q ⟨F, ρ, g, s, h⟩ => by
  unfold eIxO at h
  split at h
  · rename_i xs hi
    obtain ⟨a, vs, k1, k2, k3, k4, k5⟩ := s.own hi
    refine ⟨_, k1, F, ρ, g, s, PostG.bind s h fun j g1 v F1 H1 e1 s1 r1 h1 => ?_⟩
    obtain ⟨a', vs', m1, m2, m3, m4, m5⟩ := s1.own hi
    rw [k1] at m1
    cases m1
    cases j with
    | int n =>
      cases r1.int
      simp only at h1
      split at h1
      · rename_i d hd
        obtain ⟨v, hv, rv⟩ := atI_rq m3 hd
        exact .inl ⟨a, vs', n, v, rfl, rfl, SqL.of m2, hv, h1.now s1 (.inl rv)⟩
      · exact h1.elim
    | _ => exact h1.elim
  · exact h.elim
def eLenO (i : Nat) : EF := fun ρ g => match ρ[i]? with
  | some (.own xs) => .ok (.int xs.length) g
  | _ => .bad
theorem d_lenO {i : Nat} {e : Expr} (h : PE X e (tCB (fun xs H Q => ∃ x n, xs = [x] ∧ LenV X.K x H n ∧ Q (.int n) H) (tCons (tVar i) tNil))) : DE X c W e (eLenO i) := PE.imp h fun σ H Q ⟨F, ρ, g, s, h⟩ => by
  unfold eLenO at h
  split at h
  · rename_i xs hi
    obtain ⟨a, vs, k1, k2, k3, k4, k5⟩ := s.own hi
    exact ⟨_, k1, _, _, rfl, .inl ⟨vs, SqL.of k2, k3.len.symm⟩, h.now s rInt⟩
  · exact h.elim
def eIxA (i : Nat) (fj : EF) : EF := fun ρ g => match ρ[i]? with
  | some (.d x) => (fj ρ g).bind fun j g1 => opIx x j g1
  | _ => eIxO i fj ρ g
theorem d_ixA {i : Nat} {fj : EF} {a b : Expr} (hK : c.K = X.K) (h : PE X (.Subscript a b pos) (tOp (rIx X.K) (tVar i) (tE c W fj))) : DE X c W (.Subscript a b pos) (eIxA i fj) := ⟨fun pins s0 σ H Q I w => by
  obtain ⟨F, ρ, g, s, w⟩ := w
  unfold eIxA at w
  split at w
  · rename_i x hi
    refine h.run pins s0 σ H Q I ?_
    obtain ⟨v, k1, r1⟩ := s.slots i _ hi
    refine ⟨v, k1, F, ρ, g, s, PostG.bind s w fun y g2 u F2 H2 e2 s2 r2 h2 => ?_⟩
    unfold opIx at h2
    split at h2
    · obtain ⟨p, vs, rfl, q1, q2⟩ := (r1.mono e2.f).list
      cases r2.int
      split at h2
      · rename_i d hd
        obtain ⟨v, hv, rv⟩ := atI_rq q2 hd
        exact .inl ⟨p, vs, _, v, rfl, rfl, SqL.of (s2.fh _ _ q1), hv, h2.now s2 (.inl rv)⟩
      · exact h2.elim
    · obtain ⟨p, vs, rfl, q1, q2⟩ := (r1.mono e2.f).tuple
      cases r2.int
      split at h2
      · rename_i d hd
        obtain ⟨v, hv, rv⟩ := atI_rq q2 hd
        exact .inr (.inl ⟨p, vs, _, v, rfl, rfl, by rw [← hK]; exact seqT_mono s2.fh q1, hv, h2.now s2 (.inl rv)⟩)
      · exact h2.elim
    · cases r1.str
      cases r2.int
      obtain ⟨hz, h2⟩ := h2.ite
      split at h2
      · rename_i d hd
        exact .inr (.inr ⟨_, _, d, rfl, rfl, lim_ok hz, hd, h2.now s2 rStr⟩)
      · exact h2.elim
    · exact h2.elim
  · exact (d_ixO h).run pins s0 σ H Q I ⟨F, ρ, g, s, w⟩⟩
def eLenA (i : Nat) : EF := fun ρ g => match ρ[i]? with
  | some (.d (.list xs)) => .ok (.int xs.length) g
  | _ => eLenO i ρ g
theorem d_lenA {i : Nat} {e : Expr} (h : PE X e (tCB (fun xs H Q => ∃ x n, xs = [x] ∧ LenV X.K x H n ∧ Q (.int n) H) (tCons (tVar i) tNil))) : DE X c W e (eLenA i) := ⟨fun pins s0 σ H Q I w => by
  obtain ⟨F, ρ, g, s, w⟩ := w
  unfold eLenA at w
  split at w
  · rename_i xs hi
    refine h.run pins s0 σ H Q I ?_
    obtain ⟨v, k1, r1⟩ := s.slots i _ hi
    obtain ⟨a, vs, rfl, h1, h2⟩ := r1.list
    exact ⟨_, k1, _, _, rfl, .inl ⟨vs, SqL.of (s.fh _ _ h1), h2.len.symm⟩, w.now s rInt⟩
  · exact (d_lenO h).run pins s0 σ H Q I ⟨F, ρ, g, s, w⟩⟩
def forL (b : BF) (f : SF) : List D → RS → G → SO
  | [], ρ, g => .nx ρ g
  | x :: xs, ρ, g => match b x ρ with
    | none => .bad
    | some ρ1 => match f ρ1 g with
      | .nx ρ2 g2 => forL b f xs ρ2 g2
      | .ct ρ2 g2 => forL b f xs ρ2 g2
      | .bk ρ2 g2 => .nx ρ2 g2
      | o => o
def sFor (fi : LF) (b : BF) (f : SF) : SF := fun ρ g => (fi ρ g).go ρ fun items g1 => forL b f items ρ g1
theorem ds_for {tg iter : Expr} {body : List Stmt} {fi : LF} {is : List Nat} {b : BF} (hp : PassesOwn (model X.prog X.w) X.A X.env X.xe) (hc : X.calm = true) (hi : DI X c W tg iter fi) (hg : DG X c is tg b) (hb : DSs X c W body f)
    (hs : ∀ x, foldedSetIterable iter X.env x = pure x := by intro _; rfl) : DS X c W (.For tg iter body [] pos) (sFor fi b f) :=
  PS.imp (ps_for hp hc hi hg hb hs) fun E σ H ⟨F, ρ, g, s, h⟩ => ⟨F, ρ, g, s, go_post s h fun items g1 J F1 H1 e1 s1 r1 h1 => by
    refine ⟨fun i m σ H => ∃ F ρ g, Same F1 F ∧ SR c F H σ ρ g ∧ m = items.length - i ∧ i ≤ items.length ∧ SPost c (forL b f (items.drop i) ρ g) F W E, ⟨items.length, F1, ρ, g1, Same.refl F1, s1, by omega, Nat.zero_le _, by rw [List.drop_zero]; exact h1⟩, ?_⟩
    rintro i m σ H ⟨F, ρ, g, sF, s, rfl, hi, h⟩
    have sm : Same F1 H := sF.trans s.fh
    by_cases hlt : i < items.length
    · have hd : items[i]? = some items[i] := List.getElem?_eq_getElem hlt
      have hdr : items.drop i = items[i] :: items.drop (i + 1) := List.drop_eq_getElem_cons hlt
      obtain ⟨go, yl⟩ := (r1 i H sm).1 _ hd
      rw [hdr] at h
      simp only [forL] at h
      refine .inr ⟨go, _, fun σ' H' h => h, fun x H' y => ?_⟩
      obtain ⟨rfl, rx⟩ := yl x H' y
      cases q : b items[i] ρ with
      | none => simp only [q] at h; exact h.elim
      | some ρ1 =>
        simp only [q] at h
        refine ⟨F, ρ, g, items[i], ρ1, s, rx.mono sF, q, fun σ2 s2 _ => ⟨F, ρ1, g, s2, ?_⟩⟩
        cases q2 : f ρ1 g with
        | nx ρ2 g2 =>
          simp only [q2] at h
          exact fun σ3 F3 H3 e3 s3 => ⟨items.length - (i + 1), by omega, F3, ρ2, g2, sF.trans e3, s3, rfl, hlt, SPost.up h e3⟩
        | ct ρ2 g2 =>
          simp only [q2] at h
          exact fun σ3 F3 H3 e3 s3 => ⟨items.length - (i + 1), by omega, F3, ρ2, g2, sF.trans e3, s3, rfl, hlt, SPost.up h e3⟩
        | bk ρ2 g2 => simp only [q2] at h; exact fun σ3 F3 H3 e3 s3 => h σ3 F3 H3 e3 s3
        | rt d g2 => simp only [q2] at h; exact h
        | exc n fs ρ2 g2 => simp only [q2] at h; exact h
        | bad => simp only [q2] at h; exact h.elim
    · have e : i = items.length := by omega
      rw [e, List.drop_length] at h
      exact .inl ⟨(r1 i H sm).2 (by omega), h.nx' s⟩⟩
def whileF (t : TF) (f : SF) : Nat → RS → G → SO
  | 0, _, _ => .bad
  | n + 1, ρ, g => (t ρ g).go ρ fun k g1 => if k = true then (match f ρ g1 with
      | .nx ρ2 g2 => whileF t f n ρ2 g2
      | .ct ρ2 g2 => whileF t f n ρ2 g2
      | .bk ρ2 g2 => .nx ρ2 g2
      | o => o) else .nx ρ g1
def sWhile (n : Nat) (t : TF) (f : SF) : SF := fun ρ g => whileF t f n ρ g
theorem ds_while {body : List Stmt} {n : Nat} (hp : PassesOwn (model X.prog X.w) X.A X.env X.xe) (ht : DT X c W e tb) (hb : DSs X c W body f) : DS X c W (.While e body [] pos) (sWhile n tb f) :=
  PS.imp (ps_while hp ht hb) fun E σ H ⟨F, ρ, g, s, h⟩ => by
    refine ⟨fun m σ H => ∃ F ρ g, SR c F H σ ρ g ∧ SPost c (whileF tb f m ρ g) F W E, ⟨n, F, ρ, g, s, h⟩, ?_⟩
    rintro m σ H ⟨F, ρ, g, s, h⟩
    cases m with
    | zero => exact h.elim
    | succ m =>
      refine ⟨F, ρ, g, s, go_post s h fun k g1 v F1 H1 e1 s1 r1 h1 => ?_⟩
      cases r1
      cases k with
      | false => exact h1.nx' s1
      | true =>
        simp only [if_pos] at h1 ⊢
        refine ⟨_, fun σ' H' h => h, F1, ρ, g1, s1, ?_⟩
        cases q2 : f ρ g1 with
        | nx ρ2 g2 =>
          simp only [q2] at h1
          exact fun σ3 F3 H3 e3 s3 => ⟨m, Nat.lt_succ_self m, F3, ρ2, g2, s3, SPost.up h1 e3⟩
        | ct ρ2 g2 =>
          simp only [q2] at h1
          exact fun σ3 F3 H3 e3 s3 => ⟨m, Nat.lt_succ_self m, F3, ρ2, g2, s3, SPost.up h1 e3⟩
        | bk ρ2 g2 => simp only [q2] at h1; exact fun σ3 F3 H3 e3 s3 => h1 σ3 F3 H3 e3 s3
        | rt d g2 => simp only [q2] at h1; exact h1
        | exc n fs ρ2 g2 => simp only [q2] at h1; exact h1
        | bad => simp only [q2] at h1; exact h1.elim
end
def startR (n : Nat) (ds : List D) : RS := ds.map SV.d ++ List.replicate (n - ds.length) SV.un
def runB (n : Nat) (f : SF) (ds : List D) (g : G) : Out D := match f (startR n ds) g with
  | .nx _ g1 => .ok .none g1
  | .rt d g1 => .ok d g1
  | .exc n fs _ g1 => .exc n fs g1
  | _ => .bad
theorem sr_start {K : PySem.W.Frag} {cl : Str → Option Addr} {sa sb : Addr} {F H : Hp} {ds : List D} {vs : List V} {g : G} {N : List Str} (h : Same F H) (gk : GOk (mkC K cl sa sb F H) F H g) (r : RepAll (mkC K cl sa sb F H) F vs ds) : SR (mkC K cl sa sb F H) F H (L2.start N vs) (startR N.length ds) g where
  ext := Ext.refl h
  gok := gk
  g0 := ⟨_, _, gk.ha, gk.hb⟩
  len := by
    unfold L2.start startR
    simp only [List.length_append, List.length_map, List.length_replicate, r.length]
  slots := fun i x e => by
    unfold startR at e
    unfold L2.start
    by_cases hi : i < ds.length
    · rw [List.getElem?_append_left (by simpa using hi), List.getElem?_map] at e
      cases q : ds[i]? with
      | none => rw [q] at e; cases e
      | some d =>
        rw [q] at e
        cases e
        have go : ∀ {vs : List V} {ds : List D} {i : Nat} {d : D}, RepAll (mkC K cl sa sb F H) F vs ds → ds[i]? = some d → ∃ v, vs[i]? = some v ∧ Rep (mkC K cl sa sb F H) F v d := by
          intro vs ds i d r
          induction r generalizing i with
          | nil => intro e; simp at e
          | cons h t ih =>
            intro e
            cases i with
            | zero => simp at e; exact ⟨_, rfl, by rw [← e]; exact h⟩
            | succ i =>
              obtain ⟨v, h1, h2⟩ := ih (i := i) (by simpa using e)
              exact ⟨v, by simpa using h1, h2⟩
        obtain ⟨v, h1, h2⟩ := go r q
        refine ⟨v, ?_, h2⟩
        rw [List.getElem?_append_left (by rw [List.length_map, r.length]; exact hi), List.getElem?_map, h1]
        rfl
    · rw [List.getElem?_append_right (by simpa using hi), List.getElem?_replicate] at e
      split at e
      · cases e; trivial
      · cases e
  sep := fun i j xs ys a h1 => by
    unfold startR at h1
    by_cases hi : i < ds.length
    · rw [List.getElem?_append_left (by simpa using hi), List.getElem?_map] at h1
      cases q : ds[i]? with
      | none => rw [q] at h1; cases h1
      | some d => rw [q] at h1; cases h1
    · rw [List.getElem?_append_right (by simpa using hi), List.getElem?_replicate] at h1
      split at h1 <;> cases h1
section
variable {P : Program} {w : World} {K : PySem.W.Frag} {mg : Str → Option Value} {base : Heap} {cl : Str → Option Addr}
theorem fn_d {x qual : Str} {st : Stmt} {f : Addr} {fd : FuncData} {N ps : List Str} {k : Nat} {m : List D → G → Out D} {fb : SF} (Fn : Fun K x qual st f fd) (S : FnScope N ps (defScope st))
    (len : ∀ ds g, m ds g ≠ .bad → ds.length = ps.length) (hm : ∀ ds g, m ds g ≠ .bad → runB N.length fb ds g = m ds g)
    (hbody : ∀ (cdv : Value) (A : Around) (outer : List Env) (s : Shared) (H : Hp) (E : XK) (sa sb : Addr) (F0 H0 : Hp), Room k (A.deeper (envOfC qual (defScope st) s.heap.objs.size f cdv)) →
      DSs (cxOf (L2.CX P w) P w K mg base N qual (defScope st) f cdv A outer s H E) (mkC K cl sa sb F0 H0) (fun cls d _ H => E cls d H) (defBody st) fb) : FnD P w K mg base cl (k + 1) f fd ps m := by
  refine Fun.okX Fn S (fun vs H Q E ⟨sa, sb, F, ds, g, h1, h2, h3, h4⟩ => ?_) (fun cdv A outer s H vs Q E hr ⟨sa, sb, F, ds, g, h1, h2, h3, h4⟩ => ?_)
  · rw [h3.length]
    refine len ds g fun e => ?_
    rw [e] at h4
    exact h4
  · refine ⟨_, hbody cdv A outer s H E sa sb F H hr, F, startR N.length ds, g, sr_start h1 h2 h3, ?_⟩
    have hb : m ds g ≠ .bad := fun e => by rw [e] at h4; exact h4
    have e := hm ds g hb
    unfold runB at e
    rw [← e] at h4
    cases q : fb (startR N.length ds) g with
    | nx ρ g1 => rw [q] at h4; exact fun σ' F' H' _ s => h4 .non F' H' s.ext s.gok rNon
    | rt d g1 => rw [q] at h4; exact fun σ' ρ' v F' H' _ s r => h4 v F' H' s.ext s.gok r
    | exc n fs ρ g1 => rw [q] at h4; exact fun C dx vs σ' F' H' _ s hc hd hf => h4 C dx vs F' H' s.ext s.gok hc hd hf
    | bk ρ g1 => rw [q] at h4; exact h4.elim
    | ct ρ g1 => rw [q] at h4; exact h4.elim
    | bad => rw [q] at h4; exact h4.elim
end
end DL
namespace DL
open PySem
open PySem.Spec
open PyProof.Rows
open L2
inductive SVs (c : Ctx) (H F' H' : Hp) : List V → List SV → Prop
  | nil : SVs c H F' H' [] []
  | d {v : V} {x : D} {vs : List V} {ss : List SV} : Rep c F' v x → SVs c H F' H' vs ss → SVs c H F' H' (v :: vs) (.d x :: ss)
  | o {p : Addr} {ws vs : List V} {xs ds : List D} : H' p = some (.lst ws) → F' p = none → H p = none → RqAll c.K F' ws xs → RepAll c F' vs ds → SVs c H F' H' (.ref p :: vs) (.own xs :: ds.map .d)
  | oo {p q : Addr} {us ws vs : List V} {ys xs ds : List D} : H' p = some (.lst us) → F' p = none → H p = none → RqAll c.K F' us ys → H' q = some (.lst ws) → F' q = none → H q = none → RqAll c.K F' ws xs → p ≠ q → RepAll c F' vs ds → SVs c H F' H' (.ref p :: .ref q :: vs) (.own ys :: .own xs :: ds.map .d)
  | od {p : Addr} {vs : List V} {kvs : DK} {ds : List D} : H' p = some (.dT (dKV kvs)) → F' p = none → H p = none → RepAll c F' vs ds → SVs c H F' H' (.ref p :: vs) (.odc kvs :: ds.map .d)
  | os {p q : Addr} {ws vs : List V} {xs ds : List D} : H' p = some (DsO p []) → F' p = none → H p = none → H' q = some (.lst ws) → F' q = none → H q = none → RqAll c.K F' ws xs → RepAll c F' vs ds → SVs c H F' H' (.ref p :: .ref q :: vs) (.ods [] :: .own xs :: ds.map .d)
def PostS (c : Ctx) (σ : L2.St) (o : Out (List SV)) (F H : Hp) (W : WX) (Q : List V → Hp → Prop) : Prop :=
  match o with
  | .ok ss g => ∀ vs F' H', Ext c.sa c.sb F H F' H' → GOk c F' H' g → SVs c H F' H' vs ss → Q vs H'
  | .exc n fs g => ∀ C dx vs F' H', Ext c.sa c.sb F H F' H' → GOk c F' H' g → c.cl n = some C → H' dx = some (.xd vs) → FldR c F' vs fs → W (.ref C) (some dx) σ H'
  | .bad => False
abbrev VF := RS → G → Out (List SV)
def tVs (c : Ctx) (W : WX) (f : VF) : TA := fun σ H Q => ∃ F ρ g, SR c F H σ ρ g ∧ PostS c σ (f ρ g) F H W Q
abbrev DVs (X : Cx) (c : Ctx) (W : WX) (es : List Expr) (f : VF) : Prop := PA X es (tVs c W f)
def vOf (fs : AF) : VF := fun ρ g => (fs ρ g).bind fun ds g1 => .ok (ds.map .d) g1
def vCons (fe : EF) (fs : VF) : VF := fun ρ g => (fe ρ g).bind fun x g1 => (fs ρ g1).bind fun ss g2 => .ok (.d x :: ss) g2
def vOwn (fo : OF') (fs : AF) : VF := fun ρ g => (fo ρ g).bind fun xs g1 => (fs ρ g1).bind fun ds g2 => .ok (.own xs :: ds.map .d) g2
theorem SVs.ofRep {c : Ctx} {H F' H' : Hp} : ∀ {vs : List V} {ds : List D}, RepAll c F' vs ds → SVs c H F' H' vs (ds.map .d)
  | _, _, .nil => .nil
  | _, _, .cons h t => .d h (SVs.ofRep t)
theorem fresh_back {c : Ctx} {F H F1 H1 : Hp} (e : Ext c.sa c.sb F H F1 H1) {p : Addr} (h : H1 p = none) : H p = none := by
  cases q : H p with
  | none => rfl
  | some o =>
    obtain ⟨o', q'⟩ := e.dom p o q
    rw [h] at q'
    cases q'
theorem SVs.back {c : Ctx} {F H F1 H1 F' H' : Hp} (e : Ext c.sa c.sb F H F1 H1) : ∀ {vs : List V} {ss : List SV}, SVs c H1 F' H' vs ss → SVs c H F' H' vs ss
  | _, _, .nil => .nil
  | _, _, .d h t => .d h (SVs.back e t)
  | _, _, .o h1 h2 h3 h4 h5 => .o h1 h2 (fresh_back e h3) h4 h5
  | _, _, .oo h1 h2 h3 h4 k1 k2 k3 k4 hn h5 => .oo h1 h2 (fresh_back e h3) h4 k1 k2 (fresh_back e k3) k4 hn h5
  | _, _, .od h1 h2 h3 h5 => .od h1 h2 (fresh_back e h3) h5
  | _, _, .os h1 h2 h3 k1 k2 k3 k4 h5 => .os h1 h2 (fresh_back e h3) k1 k2 (fresh_back e k3) k4 h5
theorem PostS.up {c : Ctx} {σ : L2.St} {o : Out (List SV)} {F H F' H' : Hp} {W : WX} {Q : List V → Hp → Prop} (h : PostS c σ o F H W Q) (e : Ext c.sa c.sb F H F' H') : PostS c σ o F' H' W Q := by
  cases o with
  | ok a g => exact fun vs F1 H1 s k h1 => h vs F1 H1 (e.trans s) k (h1.back e)
  | exc n fs g => exact fun C dx vs F1 H1 s => h C dx vs F1 H1 (e.trans s)
  | bad => exact h
theorem PostS.bind {α β : Type} {c : Ctx} {σ : L2.St} {ρ : RS} {g0 : G} {R : Hp → β → α → Prop} {o : Out α} {k : α → G → Out (List SV)} {F H : Hp} {W : WX} {Q : β → Hp → Prop} {Q' : List V → Hp → Prop}
    (s0 : SR c F H σ ρ g0) (h : PostS c σ (o.bind k) F H W Q') (q : ∀ a g b F1 H1, Ext c.sa c.sb F H F1 H1 → SR c F1 H1 σ ρ g → R F1 b a → PostS c σ (k a g) F1 H1 W Q' → Q b H1) : PostG c σ R o F H W Q := by
  cases o with
  | ok a g => exact fun b F1 H1 e gk r => q a g b F1 H1 e (s0.ext' e gk) r (PostS.up (show PostS c σ (k a g) F H W Q' from h) e)
  | exc n fs g => exact h
  | bad => exact h
theorem Ext.back {sa sb : Addr} {F H F' H' : Hp} (e : Ext sa sb F H F' H') {p : Addr} (h : H p = none) {F0 H0 : Hp} (e0 : Ext sa sb F0 H0 F H) : H0 p = none := by
  cases q : H0 p with
  | none => rfl
  | some o =>
    obtain ⟨o', q'⟩ := e0.dom p o q
    rw [h] at q'
    cases q'
section
variable {X : Cx} {c : Ctx} {W : WX} {pos : Pos} {e : Expr} {es : List Expr} {fe : EF} {fs : AF} {fv : VF} {st : Stmt}
theorem dv_of (ha : DA X c W es fs) : DVs X c W es (vOf fs) := PA.imp ha fun σ H Q ⟨F, ρ, g, s, h⟩ => ⟨F, ρ, g, s, PostS.bind s h fun ds g1 vs F1 H1 e1 s1 r1 h1 => h1 vs F1 H1 (Ext.refl s1.fh) s1.gok (SVs.ofRep r1)⟩
theorem dv_cons (ha : DE X c W e fe) (hr : DVs X c W es fv) (hs : starEach (e :: es) X.env = (false, eval e X.env) :: starEach es X.env := by rfl) : DVs X c W (e :: es) (vCons fe fv) :=
  PA.imp (pa_cons ha hr hs) fun σ H Q ⟨F, ρ, g, s, h⟩ => ⟨F, ρ, g, s, PostS.bind s h fun x g1 v F1 H1 e1 s1 r1 h1 => ⟨F1, ρ, g1, s1, by
    cases q : fv ρ g1 with
    | bad => simp only [q, Out.bind] at h1; exact h1
    | exc n fs g2 => simp only [q, Out.bind] at h1; exact h1
    | ok ss g2 =>
      simp only [q, Out.bind] at h1
      exact fun vs F2 H2 e2 gk r2 => h1 (v :: vs) F2 H2 e2 gk (.d (r1.mono e2.f) r2)⟩⟩
theorem dv_own {fo : OF'} (ha : DEo X c W e fo) (hr : DA X c W es fs) (hs : starEach (e :: es) X.env = (false, eval e X.env) :: starEach es X.env := by rfl) : DVs X c W (e :: es) (vOwn fo fs) :=
  PA.imp (pa_cons ha hr hs) fun σ H Q ⟨F, ρ, g, s, h⟩ => ⟨F, ρ, g, s, by
    unfold vOwn at h
    cases q : fo ρ g with
    | bad => simp only [q, Out.bind] at h; exact h
    | exc n fs g2 => simp only [q, Out.bind] at h; exact h
    | ok xs g1 =>
      simp only [q, Out.bind] at h
      intro p ws F1 H1 e1 gk1 h1 h2 h3 h4
      have s1 := s.ext' e1 gk1
      refine ⟨F1, ρ, g1, s1, ?_⟩
      cases q2 : fs ρ g1 with
      | bad => simp only [q2] at h; exact h.elim
      | exc n fs g2 => simp only [q2] at h; exact fun C dx vs F2 H2 e2 gk hc hd hf => h C dx vs F2 H2 (e1.trans e2) gk hc hd hf
      | ok ds g2 =>
        simp only [q2] at h
        intro vs F2 H2 e2 gk r2
        have na : p ≠ c.sa := (ne_of_none s.gok.ha h3).symm
        have nb : p ≠ c.sb := (ne_of_none s.gok.hb h3).symm
        exact h (.ref p :: vs) F2 H2 (e1.trans e2) gk (.o (e2.keep p _ h1 na nb) (by rw [e2.ff p _ h1]; exact h2) h3 (RqAll_mono e2.f _ _ h4) r2)⟩
def vOwn2 (fo fo2 : OF') (fs : AF) : VF := fun ρ g => (fo ρ g).bind fun xs g1 => (vOwn fo2 fs ρ g1).bind fun ss g2 => .ok (.own xs :: ss) g2
theorem dv_own2 {fo fo2 : OF'} {e2 : Expr} (ha : DEo X c W e fo) (hb : DEo X c W e2 fo2) (hr : DA X c W es fs) (hs : starEach (e :: e2 :: es) X.env = (false, eval e X.env) :: starEach (e2 :: es) X.env := by rfl) (hs2 : starEach (e2 :: es) X.env = (false, eval e2 X.env) :: starEach es X.env := by rfl) : DVs X c W (e :: e2 :: es) (vOwn2 fo fo2 fs) :=
  PA.imp (pa_cons ha (dv_own hb hr hs2) hs) fun σ H Q ⟨F, ρ, g, s, h⟩ => ⟨F, ρ, g, s, by
    unfold vOwn2 at h
    cases q : fo ρ g with
    | bad => simp only [q, Out.bind] at h; exact h
    | exc n fs g2 => simp only [q, Out.bind] at h; exact h
    | ok xs g1 =>
      simp only [q, Out.bind] at h
      intro p ws F1 H1 e1 gk1 h1 h2 h3 h4
      have s1 := s.ext' e1 gk1
      refine ⟨F1, ρ, g1, s1, ?_⟩
      cases q2 : vOwn fo2 fs ρ g1 with
      | bad => simp only [q2] at h; exact h.elim
      | exc n fs g2 => simp only [q2] at h; exact fun C dx vs F2 H2 e2 gk hc hd hf => h C dx vs F2 H2 (e1.trans e2) gk hc hd hf
      | ok ss g2 =>
        simp only [q2] at h
        intro vs F2 H2 e2 gk r2
        have na : p ≠ c.sa := (ne_of_none s.gok.ha h3).symm
        have nb : p ≠ c.sb := (ne_of_none s.gok.hb h3).symm
        have hss : ∃ (ys ds : List D), ss = .own ys :: ds.map SV.d := by
          unfold vOwn at q2
          cases q3 : fo2 ρ g1 with
          | bad => simp only [q3, Out.bind] at q2; cases q2
          | exc n fs g2 => simp only [q3, Out.bind] at q2; cases q2
          | ok ys g3 =>
            simp only [q3, Out.bind] at q2
            cases q4 : fs ρ g3 with
            | bad => simp only [q4] at q2; cases q2
            | exc n fs g2 => simp only [q4] at q2; cases q2
            | ok ds g4 =>
              simp only [q4] at q2
              injection q2 with q2
              exact ⟨ys, ds, q2.symm⟩
        obtain ⟨ys, ds, rfl⟩ := hss
        refine h (.ref p :: vs) F2 H2 (e1.trans e2) gk ?_
        have kp := e2.keep p _ h1 na nb
        have kf : F2 p = none := by rw [e2.ff p _ h1]; exact h2
        generalize hl : ds.map SV.d = ls at r2
        cases r2 with
        | o k1 k2 k3 k4 k5 =>
          exact .oo kp kf h3 (RqAll_mono e2.f _ _ h4) k1 k2 (fresh_back e1 k3) k4 (ne_of_none h1 k3) k5
        | oo k1 k2 k3 k4 l1 l2 l3 l4 hn k5 =>
          cases ds with
          | nil => cases hl
          | cons d ds => cases hl⟩
def setAll : RS → List Nat → List SV → RS
  | ρ, i :: is, s :: ss => setAll (ρ.set i s) is ss
  | ρ, _, _ => ρ
def setV : L2.St → List Nat → List V → L2.St
  | σ, i :: is, v :: vs => setV (σ.set i (some v)) is vs
  | σ, _, _ => σ
theorem SR.setDs {c : Ctx} {F H : Hp} {g : G} : ∀ {is : List Nat} {vs : List V} {ds : List D} {σ : L2.St} {ρ : RS}, SR c F H σ ρ g → RepAll c F vs ds → SR c F H (setV σ is vs) (setAll ρ is (ds.map .d)) g
  | [], _, _, _, _, s, r => by cases r <;> exact s
  | i :: is, _, _, _, _, s, .nil => s
  | i :: is, _, _, _, _, s, .cons h t => SR.setDs (is := is) (s.setD h i) t
theorem SR.setSs {c : Ctx} {F0 H0 F H : Hp} {g g0 : G} : ∀ {is : List Nat} {vs : List V} {ss : List SV} {σ σ0 : L2.St} {ρ ρ0 : RS}, SR c F H σ ρ g → SVs c H0 F H vs ss → (∀ p, H0 p = none → c.H0 p = none ∧ ∀ (j : Nat) (ys : List D), ρ[j]? = some (.own ys) → σ[j]? ≠ some (some (.ref p))) → SR c F H (setV σ is vs) (setAll ρ is ss) g
  | [], _, _, _, _, _, _, s, r, _ => by cases r <;> exact s
  | i :: is, _, _, _, _, _, _, s, .nil, _ => s
  | i :: is, _, _, σ, σ0, ρ, ρ0, s, .d (v := v) (x := x) h t, k => SR.setSs (F0 := F0) (g0 := g0) (σ0 := σ0) (ρ0 := ρ0) (is := is) (s.setD h i) t fun p hp => ⟨(k p hp).1, fun j ys hj => by
      by_cases e : i = j
      · subst e
        by_cases hi : i < ρ.length
        · rw [List.getElem?_set_self hi] at hj; cases hj
        · rw [List.getElem?_eq_none (by rw [List.length_set]; omega)] at hj; cases hj
      · rw [List.getElem?_set_ne e] at hj ⊢
        exact (k p hp).2 j ys hj⟩
  | i :: is, _, _, _, _, _, _, s, .o h1 h2 h3 h4 h5, k => SR.setDs (is := is) (s.setO h1 h2 (k _ h3).1 h4 (k _ h3).2 i) h5
  | [i], _, _, _, _, _, _, s, .oo h1 h2 h3 h4 k1 k2 k3 k4 hn h5, k => s.setO h1 h2 (k _ h3).1 h4 (k _ h3).2 i
  | i :: i2 :: is, _, _, σ, _, ρ, _, s, .oo (p := p) (q := q) h1 h2 h3 h4 k1 k2 k3 k4 hn h5, k => SR.setDs (is := is) ((s.setO h1 h2 (k _ h3).1 h4 (k _ h3).2 i).setO k1 k2 (k _ k3).1 k4 (fun j zs hj hs => by
      by_cases e : i = j
      · subst e
        by_cases hi : i < σ.length
        · rw [List.getElem?_set_self hi] at hs
          injection hs with hs
          injection hs with hs
          injection hs with hs
          exact hn hs
        · rw [List.getElem?_eq_none (by rw [List.length_set]; omega)] at hs
          cases hs
      · rw [List.getElem?_set_ne e] at hj hs
        exact (k _ k3).2 j zs hj hs) i2) h5
  | i :: is, _, _, _, _, _, _, s, .od h1 h2 h3 h5, k => SR.setDs (is := is) (s.setDic h1 h2 (k _ h3).1 i) h5
  | [i], _, _, _, _, _, _, s, .os h1 h2 h3 k1 k2 k3 k4 h5, k => s.setDst h1 h2 (k _ h3).1 rfl (fun _ hx => by cases hx) i
  | i :: i2 :: is, _, _, σ, _, ρ, _, s, .os (p := p) (q := q) h1 h2 h3 k1 k2 k3 k4 h5, k => SR.setDs (is := is) ((s.setDst h1 h2 (k _ h3).1 rfl (fun _ hx => by cases hx) i).setO k1 k2 (k _ k3).1 k4 (fun j zs hj hs => by
      obtain ⟨n, hj⟩ := set_own (fun _ e => by cases e) hj
      rw [List.getElem?_set_ne n] at hs
      exact (k _ k3).2 j zs hj hs) i2) h5
def sTup (is : List Nat) (fv : VF) : SF := fun ρ g => (fv ρ g).go ρ fun ss g1 => if ss.length = is.length then .nx (setAll ρ is ss) g1 else .bad
theorem SVs.length {c : Ctx} {H F' H' : Hp} : ∀ {vs : List V} {ss : List SV}, SVs c H F' H' vs ss → vs.length = ss.length
  | _, _, .nil => rfl
  | _, _, .d _ t => by rw [List.length_cons, List.length_cons, SVs.length t]
  | _, _, .o _ _ _ _ h => by rw [List.length_cons, List.length_cons, List.length_map, h.length]
  | _, _, .oo _ _ _ _ _ _ _ _ _ h => by rw [List.length_cons, List.length_cons, List.length_cons, List.length_cons, List.length_map, h.length]
  | _, _, .od _ _ _ h => by rw [List.length_cons, List.length_cons, List.length_map, h.length]
  | _, _, .os _ _ _ _ _ _ _ h => by rw [List.length_cons, List.length_cons, List.length_cons, List.length_cons, List.length_map, h.length]
theorem go_postS {c : Ctx} {σ : L2.St} {ρ : RS} {g0 : G} {o : Out (List SV)} {is : List Nat} {F H : Hp} {W : WX} {Q : List V → Hp → Prop} {E : Ends}
    (s0 : SR c F H σ ρ g0) (h : SPost c (o.go ρ fun ss g1 => if ss.length = is.length then .nx (setAll ρ is ss) g1 else .bad) F W E) (q : ∀ vs F1 H1, Ext c.sa c.sb F H F1 H1 → vs.length = is.length → (∀ F2 H2, Ext c.sa c.sb F1 H1 F2 H2 → (∀ p o, H1 p = some o → H2 p = some o) → E.nx (setV σ is vs) H2) → Q vs H1) : PostS c σ o F H W Q := by
  cases o with
  | ok ss g =>
    intro vs F1 H1 e gk r
    have h : SPost c (if ss.length = is.length then .nx (setAll ρ is ss) g else .bad) F W E := h
    obtain ⟨hl, h⟩ := h.ite
    have s1 := s0.ext' e gk
    refine q vs F1 H1 e (by rw [r.length]; exact hl) fun F2 H2 e2 hk => h _ F2 H2 (e.f.trans e2.f) ?_
    have gk2 : GOk c F2 H2 g := gk.ext (e2.ff _ _ gk.ha) (e2.ff _ _ gk.hb) (by rw [hk _ _ gk.ha, gk.ha]) (by rw [hk _ _ gk.hb, gk.hb])
    have r2 : SVs c H F2 H2 vs ss := by
      have up : ∀ {vs : List V} {ss : List SV}, SVs c H F1 H1 vs ss → SVs c H F2 H2 vs ss := by
        intro vs ss r
        induction r with
        | nil => exact .nil
        | d h t ih => exact .d (h.mono e2.f) ih
        | o h1 h2 h3 h4 h5 => exact .o (hk _ _ h1) (by rw [e2.ff _ _ h1]; exact h2) h3 (RqAll_mono e2.f _ _ h4) (h5.mono e2.f)
        | oo h1 h2 h3 h4 k1 k2 k3 k4 hn h5 => exact .oo (hk _ _ h1) (by rw [e2.ff _ _ h1]; exact h2) h3 (RqAll_mono e2.f _ _ h4) (hk _ _ k1) (by rw [e2.ff _ _ k1]; exact k2) k3 (RqAll_mono e2.f _ _ k4) hn (h5.mono e2.f)
        | od h1 h2 h3 h5 => exact .od (hk _ _ h1) (by rw [e2.ff _ _ h1]; exact h2) h3 (h5.mono e2.f)
        | os h1 h2 h3 k1 k2 k3 k4 h5 => exact .os (hk _ _ h1) (by rw [e2.ff _ _ h1]; exact h2) h3 (hk _ _ k1) (by rw [e2.ff _ _ k1]; exact k2) k3 (RqAll_mono e2.f _ _ k4) (h5.mono e2.f)
      exact up r
    refine SR.setSs (F0 := F) (g0 := g) (σ0 := σ) (ρ0 := ρ) (s1.ext' e2 gk2) r2 fun p hp => ⟨?_, fun j ys hj hs => ?_⟩
    · cases z : c.H0 p with
      | none => rfl
      | some o =>
        obtain ⟨o', z'⟩ := s0.ext.dom p o z
        rw [hp] at z'
        cases z'
    · obtain ⟨a, vs', k1, k2, _⟩ := s0.own hj
      rw [hs] at k1
      cases k1
      rw [hp] at k2
      cases k2
  | exc n fs g => exact fun C dx vs F1 H1 e gk hc hd hf => h C dx vs σ F1 H1 e.f (s0.ext' e gk) hc hd hf
  | bad => exact h
theorem ds_tpar {i j : Nat} (h : PS X st (tPar i j (tVs c W fv))) : DS X c W st (sTup [i, j] fv) := PS.imp h fun E σ H ⟨F, ρ, g, s, h⟩ => ⟨F, ρ, g, s, go_postS s h fun vs F1 H1 e1 hl q => by
  match vs, hl with
  | [v, w], _ => exact ⟨v, w, rfl, by
      have s1 : Same F1 H1 := e1.fh
      exact q F1 H1 (Ext.refl s1) fun _ _ h => h⟩⟩
theorem ds_tpar3 {i j l : Nat} (h : PS X st (tPar3 i j l (tVs c W fv))) : DS X c W st (sTup [i, j, l] fv) := PS.imp h fun E σ H ⟨F, ρ, g, s, h⟩ => ⟨F, ρ, g, s, go_postS s h fun vs F1 H1 e1 hl q => by
  match vs, hl with
  | [v, w, u], _ => exact ⟨v, w, u, rfl, q F1 H1 (Ext.refl e1.fh) fun _ _ h => h⟩⟩
def gNames : List Nat → TGs
  | [] => gNil
  | i :: is => gCons (gName i) (gNames is)
theorem gNames_run : ∀ {is : List Nat} {vs : List V} {σ : L2.St} {H : Hp} {Q : L2.St → Hp → Prop}, vs.length = is.length → Q (setV σ is vs) H → gNames is vs σ H Q
  | [], [], _, _, _, _, h => ⟨rfl, h⟩
  | i :: is, v :: vs, σ, H, Q, hl, h => ⟨v, vs, rfl, gNames_run (is := is) (by simpa using hl) h⟩
theorem ds_tasg {is : List Nat} {n : Nat} (h : PS X st (tAsg (tTup (tVs c W fv)) (gTup X.K n (gNames is)))) (hn : is.length = n) (hz : n ≤ LIM) : DS X c W st (sTup is fv) := PS.imp h fun E σ H ⟨F, ρ, g, s, h⟩ => ⟨F, ρ, g, s, go_postS s h fun vs F1 H1 e1 hl q => by
  refine ⟨lim_ok (by omega), fun p np => ⟨p, vs, rfl, SqT.of upd_same, by omega, gNames_run hl ?_⟩⟩
  exact q F1 _ (Ext.newM e1.fh np) fun b o z => by rw [upd_ne (ne_of_none z np)]; exact z⟩
end
def flatD : D → Bool
  | .none => true
  | .bool _ => true
  | .int _ => true
  | .str _ => true
  | _ => false
theorem flat_rq {K : PySem.W.Frag} {F : Hp} {v : V} {d : D} (h : Rq K F v d) : flatV v = flatD d := by cases h <;> rfl
theorem flat_all {K : PySem.W.Frag} {F : Hp} : ∀ {vs : List V} {ds : List D}, RqAll K F vs ds → vs.all flatV = ds.all flatD
  | _, _, .nil => rfl
  | _, _, .cons h t => by rw [List.all_cons, List.all_cons, flat_rq h, flat_all t]
theorem eqV_rq {K : PySem.W.Frag} {F : Hp} {v u : V} {d e : D} (h : Rq K F v d) (k : Rq K F u e) (h1 : flatD d = true) (h2 : flatD e = true) : eqV v u = PyData.eqv d e := by
  cases h <;> first | (cases h1; done) | (cases k <;> first | (cases h2; done) | (simp only [eqV, PyData.eqv]; done) | rfl)
theorem any_rq {K : PySem.W.Frag} {F : Hp} {u : V} {e : D} (k : Rq K F u e) (h2 : flatD e = true) : ∀ {vs : List V} {ds : List D}, RqAll K F vs ds → ds.all flatD = true → inV u vs = ds.any fun z => PyData.eqv z e
  | _, _, .nil, _ => rfl
  | _, _, .cons h t, f => by
    simp only [List.all_cons, Bool.and_eq_true] at f
    have ih := any_rq k h2 t f.2
    unfold inV at ih ⊢
    rw [List.any_cons, List.any_cons, ih, eqV_rq h k f.1 h2]
def opIn (neg : Bool) (x y : D) (g : G) : Out D := match y with
  | .list ds => if shp x = true ∧ shp (.list ds) = true then .ok (.bool (if neg then !(ds.any fun z => PyData.eqv z x) else ds.any fun z => PyData.eqv z x)) g else .bad
  | .tuple ds => if flatD x = true ∧ ds.all flatD = true then .ok (.bool (if neg then !(ds.any fun z => PyData.eqv z x) else ds.any fun z => PyData.eqv z x)) g else .bad
  | _ => .bad
theorem OpR.of_or {X : Cx} {f : Value → Value → Sem Value} {r r' : R2} (h : OpR X f r) (h' : OpR X f r') : OpR X f (fun x y H Q => r x y H Q ∨ r' x y H Q) := h.or h'
section
variable {X : Cx} {c : Ctx} {W : WX} {pos : Pos} {a b : Expr} {fa fb : EF}
theorem d_in (hK : c.K = X.K) (hu : X.A.units + 65 < cLine) (ha : DE X c W a fa) (hb : DE X c W b fb) (hm : behindInMarks .In b = false := by rfl) : DC X c W (.Compare a [.In] [b] pos) (eBin (opIn false) fa fb) :=
  d_cmp ((op_in_seq).or (op_inD hu)) (by
    intro σ ρ g F H x y dx dy Q s rx ry h
    unfold opIn at h
    split at h
    · obtain ⟨⟨h1, h2⟩, h⟩ := h.ite
      refine .inr ⟨dx, _, Rq_dp _ _ (Rq_mono s.fh _ _ (by rw [← hK]; exact rx.rq (shp_tok h1))), Rq_dp _ _ (Rq_mono s.fh _ _ (by rw [← hK]; exact ry.rq rfl)), h1, h2, h.now s rBl⟩
    · obtain ⟨⟨h1, h2⟩, h⟩ := h.ite
      obtain ⟨p, vs, rfl, q1, q2⟩ := ry.tuple
      have rq := rx.rq (by cases dx with | dict ps => cases h1 | _ => rfl)
      refine .inl ⟨p, vs, rfl, .inr (by rw [← hK]; exact seqT_mono s.fh q1), by rw [flat_rq rq]; exact h1, by rw [flat_all q2]; exact h2, ?_⟩
      rw [any_rq rq h1 q2 h2]
      exact h.now s rBl
    · exact h.elim) ha hb hm
theorem d_notIn (hK : c.K = X.K) (hu : X.A.units + 65 < cLine) (ha : DE X c W a fa) (hb : DE X c W b fb) (hm : behindInMarks .NotIn b = false := by rfl) : DC X c W (.Compare a [.NotIn] [b] pos) (eBin (opIn true) fa fb) :=
  d_cmp ((op_notIn_seq).or (op_notInD hu)) (by
    intro σ ρ g F H x y dx dy Q s rx ry h
    unfold opIn at h
    split at h
    · obtain ⟨⟨h1, h2⟩, h⟩ := h.ite
      refine .inr ⟨dx, _, Rq_dp _ _ (Rq_mono s.fh _ _ (by rw [← hK]; exact rx.rq (shp_tok h1))), Rq_dp _ _ (Rq_mono s.fh _ _ (by rw [← hK]; exact ry.rq rfl)), h1, h2, h.now s rBl⟩
    · obtain ⟨⟨h1, h2⟩, h⟩ := h.ite
      obtain ⟨p, vs, rfl, q1, q2⟩ := ry.tuple
      have rq := rx.rq (by cases dx with | dict ps => cases h1 | _ => rfl)
      refine .inl ⟨p, vs, rfl, .inr (by rw [← hK]; exact seqT_mono s.fh q1), by rw [flat_rq rq]; exact h1, by rw [flat_all q2]; exact h2, ?_⟩
      rw [any_rq rq h1 q2 h2]
      exact h.now s rBl
    · exact h.elim) ha hb hm
end
def iSeq (fe : EF) : LF := fun ρ g => (fe ρ g).bind fun x g1 => match x with
  | .list xs => .ok xs g1
  | .tuple xs => .ok xs g1
  | _ => .bad
theorem di_seq {X : Cx} {c : Ctx} {W : WX} {tg e : Expr} {fe : EF} (hK : c.K = X.K) (ha : DE X c W e fe) : DI X c W tg e (iSeq fe) := ⟨fun pins s σ H R I w => by
  obtain ⟨F, ρ, g, sr, h⟩ := w
  unfold iSeq at h
  cases q : fe ρ g with
  | bad => simp only [q, Out.bind] at h; exact h.elim
  | exc n fs g1 => exact (di_list (tg := tg) hK ha).run pins s σ H R I ⟨F, ρ, g, sr, by unfold iLst; simp only [q, Out.bind] at h ⊢; exact h⟩
  | ok x g1 =>
    cases x with
    | list xs => exact (di_list (tg := tg) hK ha).run pins s σ H R I ⟨F, ρ, g, sr, by unfold iLst; simp only [q, Out.bind] at h ⊢; exact h⟩
    | tuple xs => exact (di_tup (tg := tg) hK ha).run pins s σ H R I ⟨F, ρ, g, sr, by unfold iTpl; simp only [q, Out.bind] at h ⊢; exact h⟩
    | _ => simp only [q, Out.bind] at h; exact h.elim⟩
section
variable {X : Cx} {c : Ctx} {W : WX} {st : Stmt} {own : List (Str × Nat)} {fi : LF} {b : BF} {ft : TF} {fe : EF} {is : List Nat}
theorem ds_lcO {i : Nat} (sub : ∀ i ∈ is, i ∈ own.map (·.2)) (h : PS X st (tAsg (tLc (tI c W fi) (tG c is b) (tT c W0 ft) (tE c W0 fe) (own.map (·.2))) (gName i))) : DS X c W st (sSetO i (oComp (own.map (·.2)) fi b ft fe)) :=
  ds_setO (PS.imp h fun E σ H w => lc_imp sub σ H _ w)
theorem ds_lc {i : Nat} (sub : ∀ i ∈ is, i ∈ own.map (·.2)) (h : PS X st (tAsg (tLc (tI c W fi) (tG c is b) (tT c W0 ft) (tE c W0 fe) (own.map (·.2))) (gName i))) : DS X c W st (sSet i (eOf (oComp (own.map (·.2)) fi b ft fe))) :=
  ds_set (PS.imp h fun E σ H w => lc_imp sub σ H _ (of_imp σ H _ w))
end
structure Df (K : PySem.W.Frag) (mg : Str → Option Value) (x : Str) (st : Stmt) (ps : List Str) where
  f : Addr
  fd : FuncData
  F : Fun K x x st f fd
  b : Binds K fd ps []
  g : mg x = some (.ref f)
def mOf (n np : Nat) (f : SF) (ds : List D) (g : G) : Out D := if ds.length = np then runB n f ds g else .bad
theorem fn_m {P : Program} {w : World} {K : PySem.W.Frag} {mg : Str → Option Value} {base : Heap} {cl : Str → Option Addr} {x : Str} {st : Stmt} {N ps : List Str} {k : Nat} {fb : SF} (T : Df K mg x st ps) (S : FnScope N ps (defScope st)) {n np : Nat} (hn : n = N.length) (hp : np = ps.length)
    (hbody : ∀ (cdv : Value) (A : Around) (outer : List Env) (s : Shared) (H : Hp) (E : XK) (sa sb : Addr) (F0 H0 : Hp), Room k (A.deeper (envOfC x (defScope st) s.heap.objs.size T.f cdv)) →
      DSs (cxOf (L2.CX P w) P w K mg base N x (defScope st) T.f cdv A outer s H E) (mkC K cl sa sb F0 H0) (fun cls d _ H => E cls d H) (defBody st) fb) : FnD P w K mg base cl (k + 1) T.f T.fd ps (mOf n np fb) := by
  subst hn hp
  refine fn_d T.F S (fun ds g h => ?_) (fun ds g h => ?_) hbody
  · unfold mOf at h
    split at h
    · assumption
    · exact absurd rfl h
  · unfold mOf at h ⊢
    split at h
    · rename_i e; rw [if_pos e]
    · exact absurd rfl h
end DL
namespace DL
open PySem
open PySem.Spec
open PyProof.Rows
open L2
structure ExcK (K : PySem.W.Frag) (pr : Program) (C : Addr) (fld : Str) (st : Stmt) where
  f : Addr
  fd : FuncData
  T : OexC K C
  cc : Addr
  cda : Addr
  ex : ∃ (oc : Value) (od : Option Addr) (kV doc pm : Value) (an : Option Addr) (ct : Value) (osl : Array (Option Value)) (qual : Str), fd = PySem.W.ksFn "__init__" qual (defArgs st) (defBody st) (defScope st) .none kV doc pm an (.ref cda) ct cc ∧ K.lookup f = some ⟨oc, od, .func fd, osl⟩ ∧ PySem.W.codeIn K (.ref cda) qual = true
  code : ∃ (ccl : Value) (cdd : Option Addr) (vs : Array Value) (ccs : Array (Option Value)) (file : Str) (tf : Tok), K.lookup cda = some ⟨ccl, cdd, .fields vs, ccs⟩ ∧ vs[2]? = some (.str file tf) ∧ ((pr.main.file : Str) == file) = true
  cell : ∃ (cl : Value) (cld : Option Addr) (csl : Array (Option Value)), K.lookup cc = some ⟨cl, cld, .cell (some (.ref C)), csl⟩
  cls : ∃ cd, PySem.W.clsIn K C = some cd
  mro : PySem.W.mroIn K C (.ref C) = some true
  sup : PySem.W.ks_superIn K C C "__init__" = some (some (.builtin "ValueError.__init__"))
  sub : PySem.W.subIn K (.ref C) (.type "ValueError") = some true
  nosup : PySem.W.nsIn K mainGlobals "super" = some none
  noany : PySem.W.nsIn K PySem.cStatics "thirdparty.any" = some none
  top : (pr.main.scope.names.lookup ("super" : Str)).isSome = false
  fin : PySem.W.findIn K (.ref C) fld = some none
  ini : PySem.W.findIn K (.ref C) "__init__" = some (some (.ref f))
  tf : PySem.W.typeIn K (.ref f) = some (.type "function")
def InitForm (st : Stmt) (fld : Str) (msg : Str) : Prop := ∃ (p1 p2 p3 p4 p5 p6 p7 p8 p9 p10 p11 p12 : Pos) (k : Nat), (p3.endLine == p7.line) = true ∧ defBody st = [
  .Expr (.Call (.Attribute (.Call (.Name "super" p1) [] [] p2) "__init__" p3) [.BinOp (.Constant (.str msg) k p4) .Add (.Name fld p5) p6] [] p7) p8,
  .Assign [.Attribute (.Name "self" p9) fld p10] (.Name fld p11) p12]
structure InitSc (sc : Scope) (fld : Str) : Prop where
  kind : sc.kind = .function
  co : sc.isCoroutine = false
  gen : sc.isGenerator = false
  self : sc.names.lookup ("self" : Str) = some .local
  fld : sc.names.lookup fld = some .local
  cls : sc.names.lookup ("__class__" : Str) = some .free
  sup : sc.names.lookup ("super" : Str) = some .globalImplicit
  nocell : ∀ x ∈ sc.names, x.2 ≠ .cell
  free : ∀ y : Str, sc.names.lookup y = some .free → y = "__class__"
def spI (K : PySem.W.Frag) (C : Addr) (fld msg : Str) : Sp := fun vs H Q _ => ∃ (a : Addr) (z : Str), vs = [.ref a, .str z] ∧ H a = some (exo a C none) ∧ msg.length + z.length ≤ sizeLine ∧ ∀ d, H d = none → d ≠ a → Q .non (upd (upd H d (exd d [(fld, .str z)])) a (exo a C (some d)))
section
variable {P : Program} {w : World} {K : PySem.W.Frag} {mg : Str → Option Value} {base : Heap} {C : Addr} {fld msg : Str} {st : Stmt}
abbrev cxI (P : Program) (w : World) (K : PySem.W.Frag) (mg : Str → Option Value) (base : Heap) (fld : Str) (env : Env) (A : Around) (outer : List Env) (s : Shared) (H : Hp) (xe : Value → Shared → Prop) : Cx where
  prog := P
  w := w
  K := K
  mg := mg
  base := base
  A := A.deeper env
  N := ["self", fld]
  s_0 := s
  H_0 := H
  env := env
  outer := outer
  stack := env :: outer
  ex := []
  fn := fun _ => false
  calm := true
  pn := []
  xe := xe
theorem init_ok (T : ExcK K P C fld st) (hs : InitForm st fld msg) (sc : InitSc (defScope st) fld) (hne : fld ≠ "self") (har : ((defArgs st).posonlyargs ++ (defArgs st).args).head?.map (fun a => a.arg) = some ("self" : Str))
    (hd1 : (fld == ("__debug__" : Str)) = false) (hd2 : (fld == ("__classdict__" : Str)) = false) (hmg : mg "super" = none) :
    FnOk P w K mg base (L2.CX P w) 1 T.f T.fd ["self", fld] (spI K C fld msg) := by
  obtain ⟨f, fd, OT, cc, cda, ⟨oc, od, kV, doc, pm, an, ct, osl, qual, rfl, lk, hcd⟩, ⟨ccl, cdd, vs2, ccs, file, tf, hcode, hvs2, hfile⟩, ⟨ccl2, cld, csl, hcell⟩, ⟨cdC, hcls⟩, hmro, hsup, hsub, hnosup, hnoany, htop, hfin, hini, htf⟩ := T
  obtain ⟨p1, p2, p3, p4, p5, p6, p7, p8, p9, p10, p11, p12, kk, hp37, hbody⟩ := hs
  refine ⟨fun vs H Q E ⟨a, z, e, _⟩ => by rw [e]; rfl, fun A outer s H args us vs Q E hr e0 hb r ⟨a, z, ev, ea, hz, hq⟩ => ?_⟩
  subst ev
  obtain ⟨u1, u2, rfl, r1, t2, rfl⟩ : ∃ u1 u2, us = [u1, u2] ∧ u1 = Value.ref a ∧ ∃ t, u2 = Value.str z t := by
    cases r with
    | cons p q => cases q with
      | cons p' q' => cases q'; exact ⟨_, _, rfl, p, p'⟩
  subst r1
  have KX : K.In s.heap := e0.mod.kin.keeps fun b o e => (e0.bs b o e).1
  have lim : s.heap.NoLimit := e0.mod.nolimit.keeps fun b o e => (e0.bs b o e).1
  have zp : (["self", fld] : List Str).zip [Value.ref a, Value.str z t2] = [(("self" : Str), Value.ref a), (fld, Value.str z t2)] := rfl
  rw [zp] at hb
  refine PySem.ks_codeAny_call_defAt (body := defBody st) (binds := [(("self" : Str), Value.ref a), (fld, Value.str z t2)]) hr.depth (KX _ _ lk) rfl lim (PySem.W.codeRec_of KX hcd) rfl hb sc.nocell (fun x hx => ?_) (fun h₀ hns hk => ?_) sc.co sc.gen sc.kind
  · rcases List.mem_cons.mp hx with rfl | hx
    · exact sc.self
    · rcases List.mem_cons.mp hx with rfl | hx
      · exact sc.fld
      · cases hx
  have KX0 : K.In h₀ := KX.keeps hk
  -- the frame
  obtain ⟨oC, hC1, hC2⟩ : ∃ oD, h₀.get? C = some oD ∧ oD.data = .cls cdC := by
    unfold PySem.W.clsIn at hcls
    split at hcls
    · rename_i c d cd' sl ho
      cases hcls
      exact ⟨_, KX0 _ _ ho, rfl⟩
    · cases hcls
  generalize henv : callEnv (PySem.W.ksFn "__init__" qual (defArgs st) (defBody st) (defScope st) Value.none kV doc pm an (Value.ref cda) ct cc) s.heap.objs.size f = env
  have eL : env.locals = s.heap.objs.size := by rw [← henv]; rfl
  have eC : env.cells = [(("__class__" : Str), cc)] := by rw [← henv]; rfl
  have eS : env.scope = defScope st := by rw [← henv]; rfl
  have eF : env.frame = some s.heap.objs.size := by rw [← henv]; rfl
  have eG : env.globals = mainGlobals := by rw [← henv]; rfl
  have eB : env.builtins = builtinsNs := by rw [← henv]; rfl
  have eU : env.func = some f := by rw [← henv]; rfl
  have eD : env.code = .ref cda := by rw [← henv]; rfl
  have cl1 : ∀ (x : Str) c, env.cells.lookup x = some c → x = "__class__" ∧ c = cc := fun x c e => by
    rw [eC] at e
    simp only [List.lookup_cons, List.lookup_nil] at e
    split at e
    · rename_i h1
      exact ⟨by simpa using h1, (Option.some.inj e).symm⟩
    · cases e
  have vis : ∀ x : Str, Vis env.scope x → x = "self" ∨ x = fld ∨ x = "__class__" ∨ True := fun _ _ => .inr (.inr (.inr trivial))
  generalize hx : (fun e s' => wpAny (model P w) (A.deeper env) (leaving env e) (fun _ s'' => CR (L2.CX P w) outer P w H s Q E (.error e) s'') (fun e' s'' => CR (L2.CX P w) outer P w H s Q E (.error e') s'') s' : Value → Shared → Prop) = xe
  have ok : (cxI P w K mg base fld env A outer s H xe).Ok := by
    have noA : ∀ b : Addr, b ∉ (cxI P w K mg base fld env A outer s H xe).ex := fun b z => absurd (show b ∈ ([] : List Addr) from z) (by simp)
    exact {
      mod := e0.mod
      kind := by show env.scope.kind = _; rw [eS]; exact sc.kind
      glob := eG
      blt := eB
      above := by show s.heap.objs.size ≤ env.locals; rw [eL]; exact Nat.le_refl _
      inj := fun x y c h1 h2 => by rw [(cl1 x c h1).1, (cl1 y c h2).1]
      has := fun x hx => by
        rcases hx with hx | hx
        · have hx : env.scope.names.lookup x = some .cell := hx
          rw [eS] at hx
          exact absurd rfl (sc.nocell _ (PySem.mem_of_lookup hx))
        · have hx : env.scope.names.lookup x = some .free := hx
          rw [eS] at hx
          refine ⟨cc, ?_⟩
          rw [sc.free x hx]
          show env.cells.lookup _ = _
          rw [eC]
          rfl
      cab := fun x c h1 _ => by cases h1
      hd := fun _ => hr.hd
      frames := Around.frames_deeper e0.frames
      stk := .inr ⟨rfl, by show env.frame = some env.locals; rw [eF, eL]⟩
      exf := fun b z => absurd z (noA b)
      bs := e0.bs
      bsz := e0.bsz
      noex := fun b o _ => noA b
      exfs := fun b z => absurd z (noA b)
      funs := e0.funs
      frf := e0.frf }
  have hcc0 : base.get? cc = some ⟨ccl2, cld, .cell (some (.ref C)), csl⟩ := e0.mod.kin _ _ hcell
  have I : Inv (cxI P w K mg base fld env A outer s H xe) [] [some (.ref a), some (.str z)] H { s with heap := h₀, toks := s.toks + 2 } := {
    ok := ok
    os := rfl
    bare := e0.bare
    base := Un.kept hk
    loc := by
      refine ⟨_, by show h₀.Ns env.locals _; rw [eL]; exact hns, fun i x v h1 h2 h3 => ?_⟩
      match i, h1, h2 with
      | 0, h1, h2 =>
        cases h1
        cases h2
        refine ⟨.ref a, rfl, .inl ⟨by show env.scope.names.lookup _ = _; rw [eS]; exact sc.self, ?_⟩⟩
        show List.lookup _ [(fld, Value.str z t2), (("self" : Str), Value.ref a)] = _
        rw [List.lookup_cons, show (("self" : Str) == fld) = false from by simp [Ne.symm hne]]
        rfl
      | 1, h1, h2 =>
        cases h1
        cases h2
        refine ⟨.str z t2, ⟨t2, rfl⟩, .inl ⟨by show env.scope.names.lookup _ = _; rw [eS]; exact sc.fld, ?_⟩⟩
        show List.lookup _ [(fld, Value.str z t2), (("self" : Str), Value.ref a)] = _
        rw [List.lookup_cons, show (fld == fld) = true from by simp]
      | i + 2, h1, h2 => simp at h2
    cell := fun x c h1 => by
      obtain ⟨_, rfl⟩ := cl1 x c h1
      exact ⟨_, _, hk _ _ ((e0.bs _ _ hcc0).1), rfl⟩
    free := by show H env.locals = none; rw [eL]; exact e0.hok.fresh (Nat.le_refl _)
    freeC := fun x c h1 => by
      obtain ⟨_, rfl⟩ := cl1 x c h1
      exact (e0.bs _ _ hcc0).2
    pin := fun p hp => absurd (show p ∈ ([] : List (Addr × Obj)) from hp) (by simp)
    hok := e0.hok.kept hk
    len := rfl }
  have hks : env.kindOf "super" = some .globalImplicit := by show env.scope.names.lookup _ = _; rw [eS]; exact sc.sup
  have hkc : env.kindOf "__class__" = some .free := by show env.scope.names.lookup _ = _; rw [eS]; exact sc.cls
  have hkk : env.scope.kind = .function := by rw [eS]; exact sc.kind
  obtain ⟨ar, har1, har2⟩ : ∃ ar, ((defArgs st).posonlyargs ++ (defArgs st).args).head? = some ar ∧ ar.arg = ("self" : Str) := by
    cases q : ((defArgs st).posonlyargs ++ (defArgs st).args).head? with
    | none => rw [q] at har; cases har
    | some ar => rw [q] at har; exact ⟨ar, rfl, Option.some.inj har⟩
  rw [hbody]
  show _root_.PySem.wpAt _ _ _ (execs _ env) _ _ _
  have he : eval (.Call (.Attribute (.Call (.Name "super" p1) [] [] p2) "__init__" p3) [.BinOp (.Constant (.str msg) kk p4) .Add (.Name fld p5) p6] [] p7) env = (do
      let ov ← attributeBase (.Call (.Name "super" p1) [] [] p2) "__init__" env (eval (.Call (.Name "super" p1) [] [] p2) env)
      standAt p3.atName
      let (f, first) ← holding [ov] (getMethod ov "__init__" (do return (← importBound (.Call (.Name "super" p1) [] [] p2) env).getD true))
      callWith p7 f first (backTo p7 (starEach [.BinOp (.Constant (.str msg) kk p4) .Add (.Name fld p5) p6] env)) []) := by
    show (do
      let ov ← attributeBase (.Call (.Name "super" p1) [] [] p2) "__init__" env (eval (.Call (.Name "super" p1) [] [] p2) env)
      standAt p3.atName
      methodCall (.Call (.Name "super" p1) [] [] p2) "__init__" p3 p7 env ov 1 (backTo p7 (starEach [.BinOp (.Constant (.str msg) kk p4) .Add (.Name fld p5) p6] env)) []) = _
    have e1 : methodCallForm 1 (backTo p7 (starEach [.BinOp (.Constant (.str msg) kk p4) .Add (.Name fld p5) p6] env)) [] = true := rfl
    unfold methodCall methodCallPos calleeOf
    rw [e1, hp37]
    rfl
  refine PySem.ks_wpAt_execs_cons (PySem.ks_wpAt_Expr_any (PySem.ks_wpAt_MethodCall ?_ he) (by unfold interactive; rw [hkk]; rfl))
  refine PySem.ks_wpAt_super_base (f := f) (cc := cda) (ar := ar) hks hkc (by decide) eU (KX0 _ _ lk) rfl har1 eD (KX0 _ _ hcode) rfl hvs2 hfile htop ?_
  have gl : h₀.Ns mainGlobals mg := e0.mod.glob.keeps I.bk
  obtain ⟨mb, hb1, hb2⟩ := e0.mod.blt
  have bl : h₀.Ns builtinsNs mb := hb1.keeps I.bk
  have bsup : bootBuiltins "super" = some (.type "super") := by decide +kernel
  refine PySem.W.ks_loadName_global hkk hks (Calls.loadGlobal_builtin (by rw [eG]; exact gl) hmg (by rw [eB]; exact bl) ((hb2 "super" (by decide)).trans bsup) ⟨rfl, ?_⟩)
  refine wpAny_loadName_free hkk hkc (c := cc) (v := .ref C) (by rw [eC]; rfl) ⟨_, KX0 _ _ hcell, rfl⟩ ?_
  obtain ⟨m, hm1, hm2⟩ := I.loc
  obtain ⟨u0, hu0, hl0⟩ := hm2 0 "self" (.ref a) rfl rfl (by show Vis env.scope _; rw [eS]; exact .inl sc.self)
  cases hu0
  have hself : m "self" = some (.ref a) := by
    rcases hl0 with h | ⟨h, _⟩
    · exact h.2
    · have h : env.scope.names.lookup ("self" : Str) = some .cell ∨ env.scope.names.lookup ("self" : Str) = some .free := h
      rw [eS, sc.self] at h
      rcases h with h | h <;> cases h
  rw [har2]
  refine wpAny_loadName_local hkk (by show env.scope.names.lookup _ = _; rw [eS]; exact sc.self) hm1 hself ?_
  refine PySem.ks_wpAny_isType_cls hC1 hC2 ⟨rfl, ?_⟩
  obtain ⟨t1, hoa⟩ := exo_at I.hok ea
  have hoa : h₀.get? a = some ({ cls := .ref C, dict := none, data := .fields #[.ref t1, .none, .none, .none, .bool false, .none] } : Obj) := hoa
  refine PySem.ks_wpAny_call_super hC1 hC2 hoa rfl (fun c e => by cases e) (PySem.W.looks_mroIn KX0 hmro) (fun h1 hso hk1 => ?_)
  -- the super object stands
  have I1 : Inv (cxI P w K mg base fld env A outer s H xe) [] [some (.ref a), some (.str z)] H { s with heap := h1, toks := s.toks + 2 } := I.kept (t' := s.toks + 2) hk1
  have KX1 : K.In h1 := KX0.keeps hk1
  have hoa1 := hk1 _ _ hoa
  have hac : a ≠ C := fun e => by
    rw [e, hC1] at hoa
    cases hoa
    cases hC2
  obtain ⟨cd, hcd1, hcd2⟩ : ∃ cd, PySem.W.clsIn K C = some cd ∧ PySem.W.alongIn K "__init__" ((cd.mro.dropWhile (· != .ref C)).drop 1) = some (some (.builtin "ValueError.__init__")) := by
    refine ⟨cdC, hcls, ?_⟩
    unfold PySem.W.ks_superIn at hsup
    rw [hcls] at hsup
    exact hsup
  refine PySem.W.kxs_getMethod PySem.W.kxs_ValueError hso (PySem.W.looks_opaque KX1 hnoany) (l₀ := cd.mro) (fun A Q E s k q => wpAny_bind ((PySem.W.looks_clsIn KX1 hcd1) A _ E s k (wpAny_pure q))) rfl KX1 hcd2
    (fun A Q E s k q => wpAny_bind (wpAny_typeOf_ref (k _ _ hoa1) ((PySem.W.looks_subIn KX1 hsub) A _ E s k q))) hac (by decide) ?_
  show wpAny _ _ (callWith p7 (.ref h1.objs.size) [] (backTo p7 ((false, eval (.BinOp (.Constant (.str msg) kk p4) .Add (.Name fld p5) p6) env) :: starEach [] env)) []) _ _ _
  generalize hs2 : ({ heap := h1.push (PySem.W.kxs_mw "ValueError.__init__" a), gens := s.gens, drawn := s.drawn, toks := s.toks + 2 + 1, os := s.os } : Shared) = s2
  have hu2 : s2.heap.get? h1.objs.size = some (PySem.W.kxs_mw "ValueError.__init__" a) := by rw [← hs2]; exact Heap.get?_push_at rfl rfl
  have I2 : Inv (cxI P w K mg base fld env A outer s H xe) [] [some (.ref a), some (.str z)] H s2 := by
    rw [← hs2]
    exact I1.kept (t' := s.toks + 2 + 1) fun b o e => Heap.get?_push_of_some _ e
  have hu0 : H h1.objs.size = none := I1.hok.fresh (Nat.le_refl _)
  have I3 : Inv (cxI P w K mg base fld env A outer s H xe) [(h1.objs.size, PySem.W.kxs_mw "ValueError.__init__" a)] [some (.ref a), some (.str z)] H s2 := I2.pins_of fun p hp => by
    have e : p = (h1.objs.size, PySem.W.kxs_mw "ValueError.__init__" a) := by simpa using hp
    subst e
    refine ⟨hu2, hu0, Nat.ne_of_gt I1.lt, I1.nofs (Nat.le_refl _), fun v e => by cases e⟩
  have pfld : PE (cxI P w K mg base fld env A outer s H xe) (.Name fld p5) (tVar 1) := pe_var rfl (by show Vis env.scope _; rw [eS]; exact .inl sc.fld) hd1 hd2
  have pself : PE (cxI P w K mg base fld env A outer s H xe) (.Name "self" p9) (tVar 0) := pe_var rfl (by show Vis env.scope _; rw [eS]; exact .inl sc.self) (by decide) (by decide)
  have pfld2 : PE (cxI P w K mg base fld env A outer s H xe) (.Name fld p11) (tVar 1) := pe_var rfl (by show Vis env.scope _; rw [eS]; exact .inl sc.fld) hd1 hd2
  have pargs : PA (cxI P w K mg base fld env A outer s H xe) [.BinOp (.Constant (.str msg) kk p4) .Add (.Name fld p5) p6] _ := pa_cons (pe_op op_add_str pe_str pfld) pa_nil
  refine PySem.W.kxs_callWith (i := "ValueError.__init__") (x := a) rfl (Calls.evalArgs_plain ?_)
  refine wpAny_mono (pargs.run p7 _ s2 _ H (fun vs H' => vs = [.str (msg ++ z)] ∧ H' = H) I3 ⟨_, rfl, msg, z, rfl, rfl, hz, rfl, rfl⟩) (fun us s3 hu3 => ?_) fun _ _ h => h
  obtain ⟨vs, H', I4, r4, rfl, rfl⟩ := hu3
  obtain ⟨v4, rfl, t4, rfl⟩ := vals1 r4
  refine ⟨(I4.pin _ (List.mem_append_right _ (List.mem_singleton.mpr rfl))).1, ?_⟩
  have hu3 : s3.heap.get? h1.objs.size = some (PySem.W.kxs_mw "ValueError.__init__" a) := (I4.pin _ (List.mem_append_right _ (List.mem_singleton.mpr rfl))).1
  obtain ⟨t5, ho5⟩ := exo_at I4.hok ea
  obtain ⟨nm, q, N, bs, bm, sn, sub, ab, col, dd, k0, k1, k2, k3, k5, hC, hbm⟩ := OT.cls
  have hC3 := I4.kIn _ _ hC
  have hex : ExcBaseFacts "ValueError" "ValueError.__new__" "ValueError.__init__" _ := PySem.F.excBase_ValueError
  show wpAny _ _ (call (.ref h1.objs.size) [.str (msg ++ z) t4]) _ _ _
  have I5 : Inv (cxI P w K mg base fld env A outer s H' xe) [] [some (.ref a), some (.str z)] H' s3 := I4.pins_of fun p hp => by simp at hp
  obtain ⟨hp3, g3, d3, tk3, os3⟩ := s3
  refine wpAny_call (codeAny_of_tree ?_)
  show wpAny _ (A.deeper env).in1 (callAny (.ref h1.objs.size) ⟨[.str (msg ++ z) t4], []⟩) _ _ _
  simp only [callAny]
  refine wpAny_bind (wpAny_load hu3 ?_)
  have ek : (Value.type "method-wrapper" == Value.type "method" || Value.type "method-wrapper" == Value.type "builtin_function_or_method" || Value.type "method-wrapper" == Value.type "method-wrapper") = true := by decide
  simp only [PySem.W.kxs_mw, ek, if_true]
  refine PySem.W.KFB.if_so (by decide) (wpAny_bind (PySem.W.check_bound_init hex.toExcCallFacts hC3 ho5 rfl (wpAny_bind (wpAny_pure (wpAny_pure ?_)))))
  refine ⟨PySem.plainId_quiet hex.init.plain _, codeAny_builtin hex.initEntry (PySem.W.exc_init_tree (cls := .ref C) (t0 := t5) (dv := none) (c2 := .none) (c3 := .none) (b4 := .bool false) ho5 (by rw [sizeLine_eq]; exact (by decide : 1 ≤ 16777216)) fun h6 hk6 hx6 _ => ?_)⟩
  have J := I5.write (t' := tk3) (x := a) (e := a) (o := exo a C none) (by rw [ea]; exact True.intro) (.inl rfl) hk6 ⟨_, hx6⟩ (exo_ok hx6)
  have eu : upd H' a (exo a C none) = H' := by
    funext b
    by_cases hb : b = a
    · rw [hb, upd_same, ea]
    · rw [upd_ne hb]
  rw [eu] at J
  have st2 := pss_one (ps_ost (f := fld) (p' := p10) (pos := p12) pself pfld2)
  have run2 := st2.run [] { heap := h6, gens := g3, drawn := d3, toks := tk3, os := os3 } _ H' { nx := fun _ H2 => Q .non H2, rt := fun _ _ => False } J
    ⟨.str z, rfl, .ref a, rfl, a, C, rfl, OT, hfin, .inl ⟨ea, fun d hd1 hd2 => hq d hd1 hd2⟩⟩
  refine wpAt_of_wpAny (wpAny_mono run2 (fun fl s7 h7 => ?_) fun _ _ h => h)
  cases fl with
  | next =>
    obtain ⟨σ7, H7, J7, q7⟩ := h7
    exact ⟨.non, H7, J7.os, J7.bare, J7.base, J7.hok, rfl, q7⟩
  | ret v => obtain ⟨_, _, _, _, _, z⟩ := h7; exact z.elim
  | brk => obtain ⟨_, _, _, z⟩ := h7; exact z.elim
  | cont => obtain ⟨_, _, _, z⟩ := h7; exact z.elim
end
end DL
namespace DL
open PySem
open PySem.Spec
open PyProof.Rows
open L2
structure Ex (K : PySem.W.Frag) (mg : Str → Option Value) (pr : Program) (x fld msg : Str) (st : Stmt) where
  C : Addr
  g : mg x = some (.ref C)
  k : ExcK K pr C fld st
  b : Binds K k.fd ["self", fld] []
  xf : XfC K C
def sRaise (n fld : Str) (fe : EF) : SF := fun ρ g => (fe ρ g).go ρ fun d g1 => match d with
  | .str z => if z.length ≤ LIM then .exc n [(fld, .str z)] ρ g1 else .bad
  | _ => .bad
section
variable {X : Cx} {c : Ctx} {W : WX} {pos p pos' : Pos} {e : Expr} {fe : EF} {x fld msg : Str} {st : Stmt}
theorem ds_raise (hK : c.K = X.K) (T : Ex X.K X.mg X.prog x fld msg st) (I : FnOk X.prog X.w X.K X.mg X.base (L2.CX X.prog X.w) 1 T.k.f T.k.fd ["self", fld] (spI X.K T.C fld msg)) (hm : msg.length ≤ LIM) (hcl : c.cl x = some T.C) (hc : X.calm = true) (hr : Room 2 X.A) (tk : Takes X W) (hg : Gl X x) (he : DE X c W e fe)
    (hdb : (x == ("__debug__" : Str)) = false := by decide) (hs : starEach [e] X.env = (false, eval e X.env) :: starEach [] X.env := by rfl) (hpl : (backTo pos (starEach [] X.env)).any (·.1) = false := by rfl) :
    DS X c W (.Raise (some (.Call (.Name x p) [e] [] pos)) none pos') (sRaise x fld fe) :=
  PS.imp (ps_raise hc tk (pmk_oex T.k.T T.k.ini T.k.tf I hr T.b .nil (fun _ _ _ _ _ _ _ h => by obtain ⟨_, _, _, _, _, _, _, _, _, _, _, _, z⟩ := h; exact z.elim) hg T.g (pa_cons he pa_nil hs) hdb hs hpl)) fun E σ H ⟨F, ρ, g, s, h⟩ => by
    refine ⟨F, ρ, g, s, go_post s h fun d g1 v F1 H1 e1 s1 r1 h1 => ?_⟩
    cases d with
    | str z =>
      cases r1.str
      obtain ⟨hl, h1⟩ := h1.ite
      refine ⟨by show 1 ≤ 1000; decide, fun a na => ⟨a, z, rfl, upd_same, ?_, fun d nd ned => ⟨rfl, d, [(fld, V.str z)], upd_same, ?_, ?_, ?_⟩⟩⟩
      · rw [sizeLine_eq]
        have hm' : msg.length ≤ 1000000 := hm
        have hl' : z.length ≤ 1000000 := hl
        omega
      · rw [upd_ne ned, upd_same]
      · rw [upd_ne ned] at nd; exact nd
      · have nd1 : H1 d = none := by rw [upd_ne ned] at nd; exact nd
        have eq : upd (del (upd (upd (upd H1 a (exo a T.C none)) d (exd d [(fld, V.str z)])) a (exo a T.C (some d))) a) d (.xd [(fld, V.str z)]) = upd H1 d (.xd [(fld, V.str z)]) := by
          funext b
          by_cases hb : b = d
          · rw [hb, upd_same, upd_same]
          · rw [upd_ne hb, upd_ne hb]
            by_cases ha : b = a
            · rw [ha, del_same, na]
            · rw [del_ne ha, upd_ne ha, upd_ne hb, upd_ne ha]
        rw [eq]
        exact h1 T.C d _ σ F1 _ (Same.refl _) (s1.newM nd1) hcl upd_same (.cons ⟨rfl, .str z⟩ .nil)
    | _ => exact h1.elim
def noEx : RS → Bool
  | [] => true
  | .ex _ :: _ => false
  | _ :: r => noEx r
theorem noEx_get : ∀ {ρ : RS} {i : Nat} {fs : List (Str × D)}, noEx ρ = true → ρ[i]? ≠ some (.ex fs)
  | [], _, _, _, h => by simp at h
  | .ex _ :: _, _, _, h, _ => by cases h
  | .un :: r, 0, _, _, h => by simp at h
  | .d _ :: r, 0, _, _, h => by simp at h
  | .own _ :: r, 0, _, _, h => by simp at h
  | .odc _ :: r, 0, _, _, h => by simp at h
  | .ods _ :: r, 0, _, _, h => by simp at h
  | .un :: r, i + 1, _, h, e => noEx_get (ρ := r) (i := i) h (by simpa using e)
  | .d _ :: r, i + 1, _, h, e => noEx_get (ρ := r) (i := i) h (by simpa using e)
  | .own _ :: r, i + 1, _, h, e => noEx_get (ρ := r) (i := i) h (by simpa using e)
  | .odc _ :: r, i + 1, _, h, e => noEx_get (ρ := r) (i := i) h (by simpa using e)
  | .ods _ :: r, i + 1, _, h, e => noEx_get (ρ := r) (i := i) h (by simpa using e)
theorem SR.at {F H : Hp} {σ : L2.St} {ρ : RS} {g : G} (s : SR c F H σ ρ g) (n : noEx ρ = true) {a d a0 d0 : Addr} : SR ((c.at a0 d0).at a d) F H σ ρ g where
  ext := s.ext
  gok := GOk.conv (c := c) rfl rfl s.gok
  g0 := s.g0
  len := s.len
  slots := fun i x h => by
    have q := s.slots i x h
    cases x with
    | un => trivial
    | d x => exact q
    | own xs => exact q
    | ex fs => exact absurd h (noEx_get n)
    | odc kvs => exact q
    | ods ks => exact q
  sep := s.sep
theorem SR.back {F H : Hp} {σ : L2.St} {ρ : RS} {g : G} {a d : Addr} (s : SR (c.at a d) F H σ ρ g) (n : noEx ρ = true) : SR c F H σ ρ g where
  ext := s.ext
  gok := GOk.conv (c := c.at a d) rfl rfl s.gok
  g0 := s.g0
  len := s.len
  slots := fun i x h => by
    have q := s.slots i x h
    cases x with
    | un => trivial
    | d x => exact q
    | own xs => exact q
    | ex fs => exact absurd h (noEx_get n)
    | odc kvs => exact q
    | ods ks => exact q
  sep := s.sep
theorem SR.setE {F H : Hp} {σ : L2.St} {ρ : RS} {g : G} (s : SR c F H σ ρ g) {vs : List (Str × V)} {fs : List (Str × D)} (h1 : H c.ed = some (.xd vs)) (h2 : FldR c F vs fs) (i : Nat) : SR c F H (σ.set i (some (.ref c.ea))) (ρ.set i (.ex fs)) g where
  ext := s.ext
  gok := s.gok
  g0 := s.g0
  len := by rw [List.length_set, List.length_set, s.len]
  slots := fun j y h => by
    by_cases hj : i = j
    · subst hj
      by_cases hi : i < ρ.length
      · rw [List.getElem?_set_self hi] at h
        cases h
        rw [List.getElem?_set_self (by rw [s.len]; exact hi)]
        exact ⟨vs, rfl, h1, h2⟩
      · rw [List.getElem?_eq_none (by rw [List.length_set]; omega)] at h
        cases h
    · rw [List.getElem?_set_ne hj] at h ⊢
      exact s.slots j y h
  sep := fun j k xs ys a h1 h2 h3 h4 => by
    have n1 : i ≠ j := fun e => by
      subst e
      by_cases hi : i < ρ.length
      · rw [List.getElem?_set_self hi] at h1; cases h1
      · rw [List.getElem?_eq_none (by rw [List.length_set]; omega)] at h1; cases h1
    have n2 : i ≠ k := fun e => by
      subst e
      by_cases hi : i < ρ.length
      · rw [List.getElem?_set_self hi] at h2; cases h2
      · rw [List.getElem?_eq_none (by rw [List.length_set]; omega)] at h2; cases h2
    rw [List.getElem?_set_ne n1] at h1 h3
    rw [List.getElem?_set_ne n2] at h2 h4
    exact s.sep j k xs ys a h1 h2 h3 h4
def sTry (i : Nat) (n : Str) (fb fh : SF) : SF := fun ρ g => match fb ρ g with
  | .exc m fs ρ1 g1 => if m = n then (if noEx ρ1 = true then (match fh (ρ1.set i (.ex fs)) g1 with
      | .nx ρ2 g2 => if noEx (ρ2.set i .un) = true then .nx (ρ2.set i .un) g2 else .bad
      | .bk ρ2 g2 => if noEx (ρ2.set i .un) = true then .bk (ρ2.set i .un) g2 else .bad
      | .ct ρ2 g2 => if noEx (ρ2.set i .un) = true then .ct (ρ2.set i .un) g2 else .bad
      | .rt d g2 => .rt d g2
      | _ => .bad) else .bad) else .exc m fs ρ1 g1
  | o => o
theorem FldR.conv {c c' : Ctx} (h : c.K = c'.K) {F : Hp} {vs : List (Str × V)} {fs : List (Str × D)} (r : FldR c F vs fs) : FldR c' F vs fs := by
  unfold FldR at r ⊢
  rw [← h]
  exact r
theorem Rep.conv {c c' : Ctx} (h1 : c.K = c'.K) (h2 : c.sa = c'.sa) {F : Hp} {v : V} {d : D} (h : Rep c F v d) : Rep c' F v d := by
  unfold Rep at h ⊢
  rw [← h1, ← h2]
  exact h
theorem ds_try {i : Nat} {n : Str} {C : Addr} {body suite : List Stmt} {b₀ : Stmt} {np : Pos} {nn : Str} {fb fh : SF} (hs : X.stack = X.env :: X.outer) (hf : X.env.frame = some X.env.locals) (hN : X.N.Nodup) (hi : X.N[i]? = some nn) (hln : X.env.kindOf nn = some .local) (hK : c.K = X.K) (hc : Names X n (.ref C)) (hcl : c.cl n = some C)
    (hmt : ∀ (m : Str) (C' : Addr), c.cl m = some C' → PySem.W.exmOne X.K (.ref C') (.ref C) = some (decide (m = n))) (tk : Takes X W)
    (hb : ∀ (W : WX) (pn : List (Addr × Obj)) (xe : Value → Shared → Prop), Takes (X.tr pn xe) W → PassesOwn (model X.prog X.w) X.A X.env xe → DSs (X.tr pn xe) c W body fb)
    (hsu : ∀ (a dd : Addr) (oe : Obj) (pn : List (Addr × Obj)), Zc (.ref C) (some dd) oe → (∃ vs, oe.data = .fields vs) → DSs (X.suite a ((a, oe) :: pn)) (c.at a dd) W0 (b₀ :: suite) fh) :
    DS X c W (.Try body [.ExceptHandler (some (.Name n np)) (some nn) (b₀ :: suite) pos'] [] [] pos) (sTry i n fb fh) :=
  PS.imp (ps_try_as (tb := fun W => tS c W fb) (ts := fun a cls d E σ H => cls = .ref C ∧ ∃ dd, d = some dd ∧ tS (c.at a dd) W0 fh E σ H) (Wout := W) hs hf hN hi hln hc tk hb fun a oe cls d pn hz hd =>
    ⟨fun pins s σ H E I w => by
      obtain ⟨rfl, dd, rfl, w⟩ := w
      exact (hsu a dd oe pn hz hd).run pins s σ H E I w⟩) fun E σ H ⟨F, ρ, g, s, h⟩ => by
    refine ⟨F, ρ, g, s, ?_⟩
    unfold sTry at h
    cases q : fb ρ g with
    | nx ρ1 g1 => simp only [q] at h; exact h
    | rt d g1 => simp only [q] at h; exact h
    | bk ρ1 g1 => simp only [q] at h; exact h
    | ct ρ1 g1 => simp only [q] at h; exact h
    | bad => simp only [q] at h; exact h
    | exc m fs ρ1 g1 =>
      simp only [q] at h
      intro C' dx vs σ1 F1 H1 e1 s1 hc1 hd1 hf1
      refine ⟨decide (m = n), hmt m C' hc1, fun hb a na => ?_, fun hb => ?_⟩
      · have em : m = n := of_decide_eq_true hb
        rw [if_pos em] at h
        by_cases hn : noEx ρ1 = true
        · rw [if_pos hn] at h
          have ec : C' = C := by rw [em, hcl] at hc1; exact (Option.some.inj hc1).symm
          subst ec
          have s2 : SR (c.at a dx) F1 H1 (σ1.set i (some (.ref a))) (ρ1.set i (.ex fs)) g1 := SR.setE (c := c.at a dx) (s1.at (a0 := a) (d0 := dx) hn) (h1 := hd1) (FldR.conv (c := c) rfl hf1) i
          refine ⟨rfl, dx, rfl, F1, _, g1, s2, ?_⟩
          cases q2 : fh (ρ1.set i (.ex fs)) g1 with
          | nx ρ2 g2 =>
            simp only [q2] at h
            obtain ⟨hn2, h⟩ := h.ite
            exact fun σ3 F3 H3 e3 s3 => h _ F3 H3 (e1.trans e3) (SR.back (c := c) (s3.unset none i) hn2)
          | bk ρ2 g2 =>
            simp only [q2] at h
            obtain ⟨hn2, h⟩ := h.ite
            exact fun σ3 F3 H3 e3 s3 => h _ F3 H3 (e1.trans e3) (SR.back (c := c) (s3.unset none i) hn2)
          | ct ρ2 g2 =>
            simp only [q2] at h
            obtain ⟨hn2, h⟩ := h.ite
            exact fun σ3 F3 H3 e3 s3 => h _ F3 H3 (e1.trans e3) (SR.back (c := c) (s3.unset none i) hn2)
          | rt d g2 =>
            simp only [q2] at h
            exact fun σ3 ρ3 v F3 H3 e3 s3 r3 => by
              have s4 : SR c F3 H3 (σ3.map fun _ => none) (ρ3.map fun _ => .un) g2 := {
                ext := s3.ext
                gok := GOk.conv (c := c.at a dx) rfl rfl s3.gok
                g0 := s3.g0
                len := by rw [List.length_map, List.length_map, s3.len]
                slots := fun j y hy => by
                  rw [List.getElem?_map] at hy
                  cases z : ρ3[j]? with
                  | none => rw [z] at hy; cases hy
                  | some y' => rw [z] at hy; cases hy; trivial
                sep := fun j k xs ys b k1 => by
                  rw [List.getElem?_map] at k1
                  cases z : ρ3[j]? with
                  | none => rw [z] at k1; cases k1
                  | some y' => rw [z] at k1; cases k1 }
              exact h _ _ v F3 H3 (e1.trans e3) s4 (Rep.conv (c := c.at a dx) rfl rfl r3)
          | exc _ _ _ _ => simp only [q2] at h; exact h.elim
          | bad => simp only [q2] at h; exact h.elim
        · rw [if_neg hn] at h; exact h.elim
      · have em : ¬ m = n := of_decide_eq_false hb
        rw [if_neg em] at h
        exact h C' dx vs σ1 F1 H1 e1 s1 hc1 hd1 hf1
def eExF (i : Nat) (f : Str) : EF := fun ρ g => match ρ[i]? with
  | some (.ex fs) => match fs.lookup f with
    | some d => .ok d g
    | none => .bad
  | _ => .bad
theorem FldR.get {F : Hp} {f : Str} {d : D} : ∀ {vs : List (Str × V)} {fs : List (Str × D)}, FldR c F vs fs → fs.lookup f = some d → ∃ v, vs.lookup f = some v ∧ Rq c.K F v d
  | _, _, .nil, h => by cases h
  | (n, v) :: vs, (n', d') :: fs, .cons h t, e => by
    obtain ⟨h1, h2⟩ := h
    have h1 : n = n' := h1
    subst h1
    rw [List.lookup_cons] at e ⊢
    split at e
    · cases e; exact ⟨v, rfl, h2⟩
    · exact FldR.get t e
theorem d_xf {i : Nat} {f : Str} {C a d : Addr} {oe : Obj} {pn : List (Addr × Obj)} (T : XfC X.K C) (hno : PySem.W.findIn X.K (.ref C) f = some none) (hz : Zc (.ref C) (some d) oe) (hf : ∃ vs, oe.data = .fields vs) (he : PE (X.suite a ((a, oe) :: pn)) e (tVar i)) (hb : attributeBase e f X.env (eval e X.env) = eval e X.env := by rfl) :
    DE (X.suite a ((a, oe) :: pn)) (c.at a d) W (.Attribute e f pos) (eExF i f) := PE.imp (pe_xf T hno hz hf he hb) fun σ H Q ⟨F, ρ, g, s, h⟩ => by
  unfold eExF at h
  split at h
  · rename_i fs hi
    split at h
    · rename_i d0 hl
      obtain ⟨vs, k1, k2, k3⟩ := s.slots i _ hi
      obtain ⟨v, hv, rv⟩ := k3.get hl
      exact ⟨.ref a, k1, rfl, rfl, d, vs, v, rfl, k2, hv, h.now s (.inl (Rq_mono (Same.refl F) _ _ rv))⟩
    · exact h.elim
  · exact h.elim
def tIfF (t a b : TF) : TF := fun ρ g => (t ρ g).bind fun k g1 => if k = true then a ρ g1 else b ρ g1
theorem dt_if {a b : Expr} {ft fa fb : TF} (ht : DT X c W e ft) (ha : DT X c W a fa) (hb : DT X c W b fb) : DT X c W (.IfExp e a b pos) (tIfF ft fa fb) := ⟨fun pins s σ H Q I ⟨F, ρ, g, sr, h⟩ => by
  refine isTrue_IfExp (thn (ht.run pins s σ H (fun k H' => if k = true then tT c W fa σ H' Q else tT c W fb σ H' Q) I ⟨F, ρ, g, sr, PostG.bind sr h fun k g1 v F1 H1 e1 s1 r1 h1 => ?_⟩) fun k s1 ⟨H1, I1, q1⟩ => ?_)
  · cases r1
    cases k with
    | true => exact ⟨F1, ρ, g1, s1, h1⟩
    | false => exact ⟨F1, ρ, g1, s1, h1⟩
  · cases k with
    | true => exact ha.run pins s1 σ H1 Q I1 q1
    | false => exact hb.run pins s1 σ H1 Q I1 q1⟩
def eRev (fa : EF) : EF := fun ρ g => (fa ρ g).bind fun x g1 => match x with
  | .list xs => .ok (.list xs.reverse) g1
  | _ => .bad
theorem RqAll.rev {K : PySem.W.Frag} {F : Hp} : ∀ {vs : List V} {ds : List D}, RqAll K F vs ds → RqAll K F vs.reverse ds.reverse
  | _, _, .nil => .nil
  | _, _, .cons h t => by
    rw [List.reverse_cons, List.reverse_cons]
    exact (RqAll.rev t).append (.cons h .nil)
theorem d_rev {k : Nat} {p1 p2 p3 : Pos} (hK : c.K = X.K) (ha : DE X c W e fe) : DE X c W (.Subscript e (.Slice none none (some (.UnaryOp .USub (.Constant (.int 1) k p1) p2)) p3) pos) (eRev fe) :=
  PE.imp (pe_revL ha) fun σ H Q ⟨F, ρ, g, s, h⟩ => ⟨F, ρ, g, s, PostG.bind s h fun x g1 v F1 H1 e1 s1 r1 h1 => by
    cases x with
    | list xs =>
      obtain ⟨p, vs, rfl, q1, q2⟩ := r1.list
      exact ⟨p, vs, rfl, by rw [← hK]; exact SqL.of (s1.fh _ _ q1), fun q n => h1.newList s1 n q2.rev⟩
    | _ => exact h1.elim⟩
end
end DL
namespace DL
open PySem
open PySem.Spec
open PyProof.Rows
open L2
def rvN (n : Nat) (i : Int) : Nat := (max (-1) (min (if i < 0 then i + n else i) ((n : Int) - 1)) + 1).toNat
theorem rv_bounds (n : Nat) (i : Int) : sliceBounds (some i) none (some (-1)) n = ((rvN n i : Int) - 1, -1, -1) := by
  simp only [sliceBounds, Option.getD_some, rvN]
  have h : ¬ ((-1 : Int) > 0) := by decide
  simp only [h, if_false]
  congr 1
  omega
theorem rvN_le (n : Nat) (i : Int) : rvN n i ≤ n := by
  unfold rvN
  omega
theorem rv_pick (items : Array Value) (i : Int) : slicePick items (some i) none (some (-1)) = (items.toList.take (rvN items.size i)).reverse.toArray := by
  unfold slicePick
  rw [rv_bounds]
  show ((sliceRange ((rvN items.size i : Int) - 1) (-1) (-1)).filterMap (items[·]?)).toArray = _
  rw [PySem.W.krv_sliceRange, PySem.W.krv_range, List.filterMap_reverse]
  have h := pick_run items 0 (rvN items.size i)
  have e : (List.range (rvN items.size i)).map (0 + ·) = List.range (rvN items.size i) := by
    rw [show ((0 + ·) : Nat → Nat) = id from funext fun k => Nat.zero_add k, List.map_id]
  rw [e, List.drop_zero] at h
  rw [h]
theorem PostG.conseq {α β : Type} {c : Ctx} {σ : L2.St} {R : Hp → β → α → Prop} {o : Out α} {F H : Hp} {W : WX} {Q Q' : β → Hp → Prop} (h : PostG c σ R o F H W Q) (q : ∀ b H', Q b H' → Q' b H') : PostG c σ R o F H W Q' := by
  cases o with
  | ok a g => exact fun b F' H' e k r => q b H' (h b F' H' e k r)
  | exc n fs g => exact h
  | bad => exact h.elim
def eRevF (fa fi : EF) : EF := fun ρ g => (fa ρ g).bind fun x g1 => match x with
  | .list xs => (fi ρ g1).bind fun y g2 => match y with
    | .int i => .ok (.list (xs.take (rvN xs.length i)).reverse) g2
    | _ => .bad
  | _ => .bad
section
variable {X : Cx} {c : Ctx} {W : WX} {pos : Pos} {e lo : Expr} {fe fi : EF}
theorem Paired.take' {α β : Type} {r : α → β → Prop} : ∀ {xs : List α} {ys : List β} (n : Nat), Paired r xs ys → Paired r (xs.take n) (ys.take n)
  | _, _, 0, _ => .nil
  | _, _, _ + 1, .nil => .nil
  | _, _, n + 1, .cons h t => .cons h (Paired.take' n t)
theorem d_revF {k : Nat} {p1 p2 p3 : Pos} (hK : c.K = X.K) (he : DE X c W e fe) (hl : DE X c W lo fi) : DE X c W (.Subscript e (.Slice (some lo) none (some (.UnaryOp .USub (.Constant (.int 1) k p1) p2)) p3) pos) (eRevF fe fi) := by
  refine ⟨fun pins s σ H Q I ⟨F, ρ, g, sr, h⟩ => ?_⟩
  have w : tE c W fe σ H fun x H1 => ∃ a xs, x = .ref a ∧ H1 a = some (.lst xs) ∧ tE c W fi σ H1 fun y H2 => ∃ i, y = .int i ∧ H2 a = some (.lst xs) ∧ ∀ q, H2 q = none → Q (.ref q) (upd H2 q (.lst (xs.take (rvN xs.length i)).reverse)) :=
    ⟨F, ρ, g, sr, PostG.bind sr h fun x g1 v F1 H1 e1 s1 r1 h1 => by
      cases x with
      | list ds =>
        obtain ⟨a, vs, rfl, q1, q2⟩ := r1.list
        refine ⟨a, vs, rfl, s1.fh _ _ q1, F1, ρ, g1, s1, PostG.bind s1 h1 fun y g2 u F2 H2 e2 s2 r2 h2 => ?_⟩
        cases y with
        | int i =>
          cases r2.int
          refine ⟨i, rfl, s2.fh _ _ (e2.f _ _ q1), fun q n => ?_⟩
          have h2 : PostG c σ (Rep c) (.ok (.list (ds.take (rvN ds.length i)).reverse) g2) F2 H2 W Q := h2
          rw [q2.len]
          exact h2.newList s2 n (RqAll.rev ((RqAll_mono e2.f _ _ q2).take _))
        | _ => exact h2.elim
      | _ => exact h1.elim⟩
  refine Subscript_ (thn (he.run pins s σ H _ I w) fun v s1 ⟨x, H1, I1, r1, q1⟩ => ?_)
  obtain ⟨a, xs, ex, hx, q⟩ := q1
  subst ex
  cases r1
  have hst : PO X (some (.UnaryOp .USub (.Constant (.int 1) k p1) p2)) (tPart (tUn (rU fun i => .int (-i)) (tC (.int 1)))) := po_some (pe_un un_neg pe_int)
  have hlo : PO X (some lo) (tPart (tE c W fi)) := po_some hl
  refine wpAny_Slice (thn (hlo.run pins s1 σ H1 (fun o H2 => ∃ i, o = some i ∧ H2 a = some (.lst xs) ∧ ∀ q, H2 q = none → Q (.ref q) (upd H2 q (.lst (xs.take (rvN xs.length i)).reverse))) I1 ?_) fun vl s2 ⟨l, H2, I2, pl, i, el, hx2, q2⟩ => ?_)
  · obtain ⟨F', ρ', g', sr', h'⟩ := q
    exact ⟨F', ρ', g', sr', h'.conseq fun b H' ⟨i, e1, e2, e3⟩ => ⟨i, e1, i, rfl, e2, e3⟩⟩
  subst el
  refine thn (po_none.run pins s2 σ H2 (fun o H3 => o = none ∧ H3 = H2) I2 ⟨rfl, rfl⟩) fun vu s3 ⟨u, H3, I3, pu, eu, e3⟩ => ?_
  subst eu e3
  refine thn (hst.run pins s3 σ H3 (fun o H4 => o = some (-1) ∧ H4 = H3) I3 ⟨1, rfl, -1, rfl, rfl, rfl⟩) fun vs s4 ⟨o, H4, I4, ps, eo, e4⟩ => ?_
  subst eo e4
  have I5 : Inv X pins σ H4 { s4 with heap := s4.heap.push { cls := .type "slice", data := .fields #[vl, vu, vs] } } := I4.kept (t' := s4.toks) fun b ob q => Heap.get?_push_of_some _ q
  obtain ⟨its, r, ht, hz⟩ := I5.list (SqL.of hx2)
  have hlen := r.length
  show wpAny (model X.prog X.w) X.A (subscriptTail e (.Slice (some lo) none (some (.UnaryOp .USub (.Constant (.int 1) k p1) p2)) p3) (.ref a) (.ref s4.heap.objs.size)) (EP X pins σ Q) X.xe { s4 with heap := s4.heap.push { cls := .type "slice", data := .fields #[vl, vu, vs] } }
  refine tail_any (ops := [.ref a, .ref s4.heap.objs.size]) ht.isList.typeIs (PySem.slot_list_getitem.lookup) ?_ (by with_unfolding_all rfl)
  refine wpAny_getItem_list_slice ht.isList (Heap.IsSliceOf.new _ vl vu vs) pl pu ps (by decide) ?_ (by rw [List.size_toArray]; omega)
  rw [rv_pick]
  have ez : its.toArray.size = xs.length := by rw [List.size_toArray]; exact hlen.symm
  rw [ez]
  refine ⟨.ref _, _, I5.laid (t' := s4.toks) (o := .lst (xs.take (rvN xs.length i)).reverse) (fun b ob q => Heap.get?_push_of_some _ q) (Nat.le_refl _) ?_, rfl, q2 _ (I5.hok.fresh (Nat.le_refl _))⟩
  refine ⟨by rw [List.length_reverse, List.length_take]; omega, _, 0, Vals.reverse (Paired.take' _ r), Heap.get?_push_size _ rfl⟩
end
end DL
namespace DL
open PySem
open PySem.Spec
open PyProof.Rows
open L2
def stir (cell s : Int) : Int := ((cell * 48271 + s * 69621) % 2147483647 * 16807 + s * 7919) % 1000000007 / 7
def takeG (most : Int) (g : G) : Int × G :=
  let at_ := (g.1 % (g.2.length : Int)).toNat
  let cell := g.2.getD at_ 0
  if 1000000000000000000 ≤ cell then (cell % most, (g.1, g.2.set at_ (cell / most))) else (stir cell (g.1 + 1) % most, (g.1 + 1, g.2))
def m_take (ds : List D) (g : G) : Out D := match ds with
  | [.dict [(.none, .none)], .int most] => if most < 2 then .ok (.int 0) g else if most.natAbs.log2 < 9000 then .ok (.int (takeG most g).1) (takeG most g).2 else .bad
  | _ => .bad
theorem m_take_args {ds : List D} {g : G} (h : m_take ds g ≠ .bad) : ∃ most, ds = [tokD, .int most] ∧ m_take ds g = (if most < 2 then .ok (.int 0) g else if most.natAbs.log2 < 9000 then .ok (.int (takeG most g).1) (takeG most g).2 else .bad) := by
  unfold m_take at h ⊢
  split at h
  · rename_i most
    exact ⟨most, rfl, rfl⟩
  · exact absurd rfl h
theorem take_ok (most : Int) (g : G) (h : most < 2 ^ 200) : ∃ r g', m_take [tokD, .int most] g = .ok (.int r) g' ∧ 0 ≤ r ∧ (r < most ∨ r = 0) := by
  by_cases h2 : most < 2
  · refine ⟨0, g, ?_, Int.le_refl _, .inr rfl⟩
    show (if most < 2 then _ else _) = _
    rw [if_pos h2]
  · have hl : most.natAbs.log2 < 9000 := by
      have h1 : most.natAbs < 2 ^ 200 := by
        have e : ((2 : Int) ^ 200) = ((2 ^ 200 : Nat) : Int) := by rw [Int.natCast_pow]; rfl
        rw [e] at h
        omega
      exact Nat.lt_trans ((Nat.log2_lt (by omega)).mpr h1) (by decide)
    refine ⟨(takeG most g).1, (takeG most g).2, ?_, ?_, .inl ?_⟩
    · show (if most < 2 then _ else if _ then _ else _) = _
      rw [if_neg h2, if_pos hl]
    · unfold takeG
      dsimp only
      split
      · exact Int.emod_nonneg _ (by omega)
      · exact Int.emod_nonneg _ (by omega)
    · unfold takeG
      dsimp only
      split
      · exact Int.emod_lt_of_pos _ (by omega)
      · exact Int.emod_lt_of_pos _ (by omega)
theorem GOk.same {c : Ctx} {F H : Hp} {g : G} (k : GOk c F H g) (h : Same F H) : True := trivial
theorem Ext.st {sa sb p : Addr} {F H : Hp} {o : HO} (h : Same F H) (hp : p = sa ∨ p = sb) (hf : F p = none) : Ext sa sb F H F (upd H p o) where
  f := Same.refl F
  fh := fun b x e => by
    have n : b ≠ p := ne_of_none e hf
    rw [upd_ne n]
    exact h b x e
  keep := fun q x e n1 n2 => by
    have n : q ≠ p := by
      rcases hp with rfl | rfl
      · exact n1
      · exact n2
    rw [upd_ne n]
    exact e
  dom := fun q x e => by
    by_cases n : q = p
    · exact ⟨o, by rw [n, upd_same]⟩
    · exact ⟨x, by rw [upd_ne n]; exact e⟩
  ff := fun _ _ _ => rfl
theorem ixN0 {n : Nat} {k : Int} {j : Nat} (h : k = j) (hj : j < n) : ixN n k = some j := by
  unfold ixN
  rw [if_pos (by omega), if_pos (by omega)]
  congr 1
  omega
theorem atI0 {α : Type} {xs : List α} {k : Int} {j : Nat} {v : α} (h : k = j) (hv : xs[j]? = some v) : atI xs k = some v := by
  have hj : j < xs.length := by
    cases Nat.lt_or_ge j xs.length with
    | inl h => exact h
    | inr h => rw [List.getElem?_eq_none h] at hv; cases hv
  unfold atI
  rw [ixN0 h hj]
  exact hv
theorem rep_take {K : PySem.W.Frag} {cl : Str → Option Addr} {sa sb : Addr} {F H : Hp} {vs : List V} {most : Int} (r : RepAll (mkC K cl sa sb F H) F vs [tokD, .int most]) : vs = [.ref sa, .int most] := by
  cases r with
  | cons h1 t =>
    cases t with
    | cons h2 t =>
      cases t
      cases h2.int
      rcases h1 with h | ⟨⟨h, _⟩ | h, _⟩
      · cases h
      · rw [h]
      · exact h.notTok.elim
abbrev rMod : R2 := rI (fun _ j => 0 < j) fun i j => V.int (i % j)
abbrev tInt1 (t : TE) : TE := tCB (fun xs H Q => (∃ i, xs = [V.int i] ∧ Q (V.int i) H) ∨ ∃ k, xs = [V.bl k] ∧ Q (V.int (if k = true then 1 else 0)) H) (tCons t tNil)
abbrev rAdd0 : R2 := rI0 fun i j => V.int (i + j)
abbrev rMul0 : R2 := rI CMul fun i j => V.int (i * j)
def tTake (K : PySem.W.Frag) : TS :=
  tSeq (tIfS (tTest (tOp (rI0 fun i j => V.bl (decide (i < j))) (tVar 1) (tC (V.int 2)))) (tRet (tC (V.int 0))) tNext)
  (tSeq (tAsg (tOp (rIxL K) (tVar 0) (tC (V.int 1))) (gName 2))
  (tSeq (tAsg (tOp rMod (tInt1 (tOp (rIxL K) (tVar 0) (tC (V.int 0)))) (tCB (fun xs H Q => ∃ x n, xs = [x] ∧ LenV K x H n ∧ Q (V.int ↑n) H) (tCons (tVar 2) tNil))) (gName 3))
  (tSeq (tAsg (tOp (rIxL K) (tVar 2) (tVar 3)) (gName 4))
  (tSeq (tIfS (tTest (tOp (rI0 fun i j => V.bl (decide (j ≤ i))) (tVar 4) (tC (V.int 1000000000000000000))))
    (tSeq (tAsg (tOp (rI CDivW fun i j => V.int (i / j)) (tVar 4) (tVar 1)) (gSub (tVar 2) (tVar 3) rSetL)) (tRet (tOp rMod (tInt1 (tVar 4)) (tVar 1)))) tNext)
  (tSeq (tAsg (tOp rAdd0 (tOp (rIxL K) (tVar 0) (tC (V.int 0))) (tC (V.int 1))) (gSub (tVar 0) (tC (V.int 0)) rSetL))
  (tSeq (tAsg (tOp rMod (tInt1 (tOp rAdd0 (tOp rMul0 (tVar 4) (tC (V.int 48271))) (tOp rMul0 (tOp (rIxL K) (tVar 0) (tC (V.int 0))) (tC (V.int 69621))))) (tC (V.int 2147483647))) (gName 5))
  (tSeq (tAsg (tOp rMod (tInt1 (tOp rAdd0 (tOp rMul0 (tVar 5) (tC (V.int 16807))) (tOp rMul0 (tOp (rIxL K) (tVar 0) (tC (V.int 0))) (tC (V.int 7919))))) (tC (V.int 1000000007))) (gName 5))
  (tRet (tOp rMod (tInt1 (tOp (rI CDiv fun i j => V.int (i / j)) (tVar 5) (tC (V.int 7)))) (tVar 1))))))))))
theorem take_run {K : PySem.W.Frag} {cl : Str → Option Addr} {sa sb : Addr} {F H : Hp} {g : G} {most : Int} {Q : VK} {E : XK} {E' : Ends} (hE : E' = { nx := fun x H' => Q V.non H', rt := Q }) (h1 : Same F H) (h2 : GOk (mkC K cl sa sb F H) F H g)
    (h4 : CPost (mkC K cl sa sb F H) F H (if most < 2 then .ok (.int 0) g else if most.natAbs.log2 < 9000 then .ok (.int (takeG most g).1) (takeG most g).2 else .bad) Q E) {σ : L2.St} (hσ : σ = [some (.ref sa), some (.int most), none, none, none, none]) :
    tTake K E' σ H := by
  subst hE hσ
  have ha : H sa = some (.lst [.int g.1, .ref sb]) := h2.ha
  have hb : H sb = some (.lst (g.2.map V.int)) := h2.hb
  have fa : F sa = none := h2.fa
  have fb : F sb = none := h2.fb
  have ne : sa ≠ sb := h2.ne
  have wf : g.2 ≠ [] := h2.wf
  have hl : 0 < g.2.length := List.length_pos_iff.mpr wf
  refine ⟨.int most, rfl, most, 2, rfl, rfl, _, rfl, ite2 (fun e => ?_) (fun e => ?_)⟩
  · have e : most < 2 := of_decide_eq_true e
    rw [if_pos e] at h4
    exact h4 _ F H (Ext.refl h1) h2 rInt
  · have e : ¬ most < 2 := fun z => e (decide_eq_true z)
    rw [if_neg e] at h4
    by_cases hw : most.natAbs.log2 < 9000
    · rw [if_pos hw] at h4
      have pos : 0 < most := by omega
      refine ⟨.ref sa, rfl, sa, _, 1, .ref sb, rfl, rfl, SqL.of ha, rfl, ?_⟩
      refine ⟨.ref sa, rfl, sa, _, 0, .int g.1, rfl, rfl, SqL.of ha, rfl, .inl ⟨g.1, rfl, ?_⟩⟩
      have hp : (0 : Int) < g.2.length := by omega
      refine ⟨.ref sb, rfl, .ref sb, g.2.length, rfl, .inl ⟨_, SqL.of hb, by rw [List.length_map]⟩, g.1, g.2.length, rfl, rfl, hp, ?_⟩
      have hj : (g.1 % (g.2.length : Int)).toNat < g.2.length := by
        have := Int.emod_lt_of_pos g.1 hp
        have := Int.emod_nonneg g.1 (show (g.2.length : Int) ≠ 0 by omega)
        omega
      generalize hjj : (g.1 % (g.2.length : Int)).toNat = j at hj
      have hk : g.1 % (g.2.length : Int) = (j : Int) := by
        have := Int.emod_nonneg g.1 (show (g.2.length : Int) ≠ 0 by omega)
        omega
      dsimp only
      rw [hk]
      have hc : (g.2.map V.int)[j]? = some (.int (g.2.getD j 0)) := by
        rw [List.getElem?_map, List.getElem?_eq_getElem hj, List.getD_eq_getElem?_getD, List.getElem?_eq_getElem hj]
        rfl
      refine ⟨.ref sb, rfl, .int (j : Int), rfl, sb, _, j, .int (g.2.getD j 0), rfl, rfl, SqL.of hb, atI0 rfl hc, ?_⟩
      have et : takeG most g = if 1000000000000000000 ≤ g.2.getD j 0 then (g.2.getD j 0 % most, (g.1, g.2.set j (g.2.getD j 0 / most))) else (stir (g.2.getD j 0) (g.1 + 1) % most, (g.1 + 1, g.2)) := by
        unfold takeG
        rw [hjj]
      generalize g.2.getD j 0 = cell at et hc
      refine ⟨.int cell, rfl, cell, 1000000000000000000, rfl, rfl, _, rfl, ite2 (fun e2 => ?_) (fun e2 => ?_)⟩
      · have e2 : 1000000000000000000 ≤ cell := of_decide_eq_true e2
        rw [if_pos e2] at et
        rw [et] at h4
        refine ⟨.int cell, rfl, .int most, rfl, cell, most, rfl, rfl, ⟨pos, hw⟩, .ref sb, rfl, .int (j : Int), rfl, sb, _, j, j, rfl, rfl, hb, ixN0 rfl (by rw [List.length_map]; exact hj), ?_⟩
        refine ⟨.int cell, rfl, .inl ⟨cell, rfl, .int most, rfl, cell, most, rfl, rfl, pos, ?_⟩⟩
        have em : (g.2.map V.int).set j (.int (cell / most)) = (g.2.set j (cell / most)).map V.int := by rw [List.map_set]
        dsimp only
        rw [em]
        refine h4 _ F _ (Ext.st h1 (.inr rfl) fb) ⟨ne, ?_, upd_same, fa, fb, ?_⟩ rInt
        · show (upd H sb _) sa = _
          rw [upd_ne ne]
          exact ha
        · intro z
          have z1 := congrArg List.length z
          rw [List.length_set] at z1
          have z2 : g.2.length = 0 := z1
          omega
      · have e2 : ¬ 1000000000000000000 ≤ cell := fun z => e2 (decide_eq_true z)
        rw [if_neg e2] at et
        rw [et] at h4
        have hL : ([V.int g.1, .ref sb] : List V).set 0 (.int (g.1 + 1)) = [.int (g.1 + 1), .ref sb] := rfl
        refine ⟨.ref sa, rfl, sa, _, 0, .int g.1, rfl, rfl, SqL.of ha, rfl, g.1, 1, rfl, rfl, .ref sa, rfl, sa, _, 0, 0, rfl, rfl, ha, rfl, ?_⟩
        dsimp only
        rw [hL]
        have ha2 : (upd H sa (.lst [.int (g.1 + 1), .ref sb])) sa = some (.lst [.int (g.1 + 1), .ref sb]) := upd_same
        refine ⟨.int cell, rfl, cell, 48271, rfl, rfl, .inr (by decide), .ref sa, rfl, sa, _, 0, .int (g.1 + 1), rfl, rfl, SqL.of ha2, rfl, g.1 + 1, 69621, rfl, rfl, .inr (by decide), _, _, rfl, rfl, .inl ⟨_, rfl, _, 2147483647, rfl, rfl, (by decide : (0 : Int) < 2147483647), ?_⟩⟩
        refine ⟨_, rfl, _, 16807, rfl, rfl, .inr (by decide), .ref sa, rfl, sa, _, 0, .int (g.1 + 1), rfl, rfl, SqL.of ha2, rfl, g.1 + 1, 7919, rfl, rfl, .inr (by decide), _, _, rfl, rfl, .inl ⟨_, rfl, _, 1000000007, rfl, rfl, (by decide : (0 : Int) < 1000000007), ?_⟩⟩
        refine ⟨_, rfl, _, 7, rfl, rfl, (by decide : (0 : Int) < 7 ∧ (7 : Int) < 1073741824), .inl ⟨_, rfl, .int most, rfl, _, most, rfl, rfl, pos, ?_⟩⟩
        refine h4 _ F _ (Ext.st h1 (.inl rfl) fa) ⟨ne, upd_same, ?_, fa, fb, wf⟩ rInt
        show (upd H sa _) sb = _
        rw [upd_ne ne.symm]
        exact hb
    · rw [if_neg hw] at h4
      exact h4.elim
def spState (K : PySem.W.Frag) : Sp := fun vs H Q _ => ∃ (a : Addr) (ns : List Int), vs = [.ref a] ∧ SqL K H a (ns.map V.int) ∧ ns.length ≤ 63 ∧
  ∀ (sa sb : Addr) (cells : List Int) (H' : Hp), sa ≠ sb → H' sa = some (.lst [.int 0, .ref sb]) → H' sb = some (.lst (cells.map V.int)) → cells ≠ [] → Q (.ref sa) H'
theorem cut_ints (ns : List Int) (lo hi : Option Int) : ∃ ms : List Int, cutV (ns.map V.int) lo hi = ms.map V.int ∧ ms.length ≤ ns.length := by
  refine ⟨(ns.drop (HT.sIx ns.length 0 lo)).take (HT.sIx ns.length ns.length hi - HT.sIx ns.length 0 lo), ?_, ?_⟩
  · unfold cutV
    rw [List.length_map, ← List.map_drop, ← List.map_take]
  · rw [List.length_take, List.length_drop]
    omega
def tState (K : PySem.W.Frag) : TS :=
  tSeq (tAsg (tLc (iList K (tSl (rSlL K) (tVar 0) tNoPart (tPart (tC (V.int 63))))) (gName 2) tYes (tCB (fun xs H Q => ∃ i, xs = [V.int i] ∧ Q (V.int (if i < 0 then -i else i)) H) (tCons (tVar 2) tNil)) [2]) (gName 1))
  (tSeq (tIfS (tTest (tOp rEq (tCB (fun xs H Q => ∃ x n, xs = [x] ∧ LenV K x H n ∧ Q (V.int ↑n) H) (tCons (tVar 1) tNil)) (tC (V.int 0)))) (tAsg (tLst (tCons (tC (V.int 0)) tNil)) (gName 1)) tNext)
  (tRet (tLst (tCons (tC (V.int 0)) (tCons (tVar 1) tNil)))))
theorem state_run {K : PySem.W.Frag} {a : Addr} {ns : List Int} {H : Hp} {Q : VK} {E' : Ends} (hE : E' = { nx := fun x H' => Q V.non H', rt := Q }) (hS : SqL K H a (ns.map V.int)) (hl : ns.length ≤ 63)
    (h4 : ∀ (sa sb : Addr) (cells : List Int) (H' : Hp), sa ≠ sb → H' sa = some (.lst [.int 0, .ref sb]) → H' sb = some (.lst (cells.map V.int)) → cells ≠ [] → Q (.ref sa) H') {σ : L2.St} (hσ : σ = [some (.ref a), none, none]) : tState K E' σ H := by
  subst hE hσ
  have fin : ∀ (σ : L2.St) (H1 : Hp) (b : Addr) (cells : List Int), σ[1]? = some (some (.ref b)) → H1 b = some (.lst (cells.map V.int)) → cells ≠ [] → tRet (tLst (tCons (tC (V.int 0)) (tCons (tVar 1) tNil))) { nx := fun x H' => Q V.non H', rt := Q } σ H1 := by
    intro σ H1 b cells hb hb2 hc
    refine ⟨.ref b, hb, by rw [sizeLine_eq]; exact (by decide : 2 ≤ 16777216), fun p np => ?_⟩
    have n : b ≠ p := ne_of_none hb2 np
    refine h4 p b cells _ n.symm upd_same ?_ hc
    rw [upd_ne n]
    exact hb2
  obtain ⟨ms, em, lm⟩ := cut_ints ns none (some 63)
  refine ⟨.ref a, rfl, 63, rfl, a, _, rfl, hS, fun c nc => ?_⟩
  rw [em]
  refine ⟨c, rfl, ⟨_, SqL.of upd_same⟩, fun D nD => ?_⟩
  have ncD : c ≠ D := fun e => by rw [e, upd_same] at nD; cases nD
  refine ⟨fun i m H3 => i + m = ms.length ∧ H3 c = some (.lst (ms.map V.int)) ∧ ∃ acc : List Int, acc.length = i ∧ H3 D = some (.lst (acc.map V.int)), ⟨ms.length, by omega, by rw [upd_ne ncD]; exact upd_same, [], rfl, upd_same⟩, fun i m H3 ⟨e1, e2, acc, e3, e4⟩ => ?_⟩
  by_cases hi : i < ms.length
  · have gi : (ms.map V.int)[i]? = some (.int ms[i]) := by rw [List.getElem?_map, List.getElem?_eq_getElem hi]; rfl
    refine .inr ⟨⟨_, _, SqL.of e2, gi⟩, fun H' => H' c = some (.lst (ms.map V.int)) ∧ ∃ acc : List Int, acc.length = i + 1 ∧ H' D = some (.lst (acc.map V.int)), fun H' ⟨k1, k2⟩ => ⟨m - 1, by omega, by omega, k1, k2⟩, fun x H' ⟨eH, fx⟩ => ?_⟩
    subst eH
    have ex : x = .int ms[i] := Option.some.inj ((fx _ (SqL.of e2)).symm.trans gi)
    subst ex
    refine ⟨rfl, .int ms[i], rfl, ms[i], rfl, _, e4, ?_, ?_, acc ++ [if ms[i] < 0 then -ms[i] else ms[i]], ?_, ?_⟩
    · rw [List.length_map, sizeLine_eq]
      omega
    · rw [upd_ne ncD]
      exact e2
    · rw [List.length_append, e3]
      rfl
    · rw [upd_same, List.map_append]
      rfl
  · refine .inl ⟨⟨_, SqL.of e2, by rw [List.length_map]; omega⟩, ?_⟩
    refine ⟨.ref D, rfl, .ref D, _, rfl, .inl ⟨_, SqL.of e4, rfl⟩, rfl, _, rfl, ite2 (fun e => ?_) (fun e => ?_)⟩
    · refine ⟨by rw [sizeLine_eq]; decide, fun p np => ?_⟩
      exact fin _ _ p [0] rfl upd_same (by simp)
    · refine fin _ _ D acc rfl e4 fun z => ?_
      subst z
      exact e (decide_eq_true rfl)
def spLaw (K : PySem.W.Frag) : Sp := fun vs H Q _ => ∃ (a : Addr) (ns : List Int), vs = [.ref a] ∧ SqL K H a (ns.map V.int) ∧ ns.length ≤ 63 ∧ ∀ H', Q (.bl true) H'
def tRest (K : PySem.W.Frag) (cl : Str → Option Addr) (W : WX) (fb : SF) : TS := fun E σ H => ∃ sa sb F0 H0, tS (mkC K cl sa sb F0 H0) W fb E σ H
theorem rest_run {X : Cx} {K : PySem.W.Frag} {cl : Str → Option Addr} {W : WX} {sts : List Stmt} {fb : SF} (h : ∀ sa sb F0 H0, DSs X (mkC K cl sa sb F0 H0) W sts fb) : PSs X sts (tRest K cl W fb) :=
  ⟨fun pins s σ H E I ⟨sa, sb, F0, H0, w⟩ => (h sa sb F0 H0).run pins s σ H E I w⟩
theorem law_go {K : PySem.W.Frag} {cl : Str → Option Addr} {W : WX} {EE : L2.St → XK} {fb : SF} {a : Addr} {ns : List Int} {H : Hp} {Q : VK} {E' : Ends} {n : Nat} (hE : E' = { nx := fun _ H' => Q V.non H', rt := Q }) (hS : SqL K H a (ns.map V.int)) (hl : ns.length ≤ 63)
    (h4 : ∀ H', Q (.bl true) H') {σ : L2.St} (hσ : σ = some (.ref a) :: none :: List.replicate n none) (hm : ∀ cells : List Int, cells ≠ [] → ∃ g, fb (.un :: .d tokD :: List.replicate n .un) (0, cells) = .rt (.bool true) g) :
    tSeq (tAsg (tCallS (spState K) EE (tCons (tVar 0) tNil)) (gName 1)) (tRest K cl W fb) E' σ H := by
  subst hE hσ
  refine ⟨.ref a, rfl, a, ns, rfl, hS, hl, fun sa sb cells H' ne h1 h2 hc => ?_⟩
  obtain ⟨g, hg⟩ := hm cells hc
  refine ⟨sa, sb, fun _ => none, H', fun _ => none, .un :: .d tokD :: List.replicate n .un, (0, cells), ?_, ?_⟩
  · exact {
      ext := Ext.refl fun _ _ h => by cases h
      gok := ⟨ne, h1, h2, rfl, rfl, hc⟩
      g0 := ⟨_, _, h1, h2⟩
      len := by simp
      slots := fun i x e => by
        match i, e with
        | 0, e => cases e; trivial
        | 1, e => cases e; exact ⟨.ref sa, rfl, repTok⟩
        | i + 2, e =>
          have e : (List.replicate n SV.un)[i]? = some x := e
          rw [List.getElem?_replicate] at e
          split at e
          · cases e; trivial
          · cases e
      sep := fun i j xs ys b e => by
        match i, e with
        | 0, e => cases e
        | 1, e => cases e
        | i + 2, e =>
          have e : (List.replicate n SV.un)[i]? = some (.own xs) := e
          rw [List.getElem?_replicate] at e
          split at e
          · cases e
          · cases e }
  · rw [hg]
    exact fun σ' ρ' v F' H1 _ _ r => by
      cases r.bl
      exact h4 H1
end DL
namespace DL
open PySem
open PySem.Spec
open PyProof.Rows
open L2
section
variable {K : PySem.W.Frag} {mg : Str → Option Value} {h : Heap} {pr : Program}
abbrev df_mk {x : Str} {st : Stmt} {ps : List Str} {f : Addr} {oc : Value} {od an : Option Addr} {osl : Array (Option Value)} {kV doc pm cdv ct : Value} (X : K.In h) (G : h.Ns mainGlobals mg)
    (a : PySem.W.nsIn K mainGlobals x = some (some (.ref f))) (l : K.lookup f = some ⟨oc, od, .func (PySem.W.fnOf x x (defArgs st) (defBody st) (defScope st) .none kV doc pm an cdv ct), osl⟩)
    (c : PySem.W.codeIn K cdv x = true) (k : PySem.W.keepIn K (.ref f) = true)
    (hb : ∀ (kV doc pm : Value) (an : Option Addr) (cdv ct : Value) (us : List Value), us.length = ps.length → bindArgs (PySem.W.fnOf x x (defArgs st) (defBody st) (defScope st) .none kV doc pm an cdv ct) ⟨us, []⟩ = pure (ps.zip us)) : Df K mg x st ps where
  f := f
  fd := PySem.W.fnOf x x (defArgs st) (defBody st) (defScope st) .none kV doc pm an cdv ct
  F := fun_mk l c k
  b := (fun_mk l c k).binds hb
  g := PySem.W.mg_of X G a
theorem exm_of {C1 C : Addr} {b : Bool} (h1 : PySem.W.subIn K (.ref C) (.type "BaseException") = some true) (h2 : PySem.W.isClsIn K C = true) (h3 : PySem.W.typeIn K (.ref C) = some (.type "type")) (h4 : PySem.W.subIn K (.ref C1) (.ref C) = some b) :
    PySem.W.exmOne K (.ref C1) (.ref C) = some b := by
  have e1 : (PySem.W.subIn K (.ref C) (.type "BaseException") == some true) = true := by rw [h1] <;> rfl
  have e2 : ((PySem.W.clsIn K C).isSome && PySem.W.typeIn K (.ref C) == some (.type "type")) = true := by
    have h2' : (PySem.W.clsIn K C).isSome = true := h2
    rw [h2', h3] <;> rfl
  show (if (PySem.W.subIn K (.ref C) (.type "BaseException") == some true) = true then (if ((PySem.W.clsIn K C).isSome && PySem.W.typeIn K (.ref C) == some (.type "type")) = true then PySem.W.subIn K (.ref C1) (.ref C) else none) else none) = some b
  rw [if_pos e1, if_pos e2]
  exact h4
abbrev ex_mk {x fld msg qual : Str} {st : Stmt} {C f cc cda : Addr}
    {nm q : Str} {N : Addr} {bs bm : List Value} {sn : List Str} {sub : List Value} {ab : Bool} {col : Option Bool} {dd : Option Addr} {m0 m1 m2 m3 m5 : Option Value}
    {oc kV doc pm ct : Value} {od an : Option Addr} {osl : Array (Option Value)} {ccl : Value} {cdd : Option Addr} {vs : Array Value} {ccs : Array (Option Value)} {file : Str} {tf : Tok} {cl : Value} {cld : Option Addr} {csl : Array (Option Value)} {cd : ClassData}
    (X : K.In h) (G : h.Ns mainGlobals mg)
    (aC : PySem.W.nsIn K mainGlobals x = some (some (.ref C)))
    (xL : K.lookup C = some (excClassObj nm q C N bs bm true sn sub ab col dd m0 m1 m2 m3 m5 "ValueError.__new__")) (hbm : PySem.HandSPX.refsVE bm = true)
    (sa : PySem.W.findIn K (.ref C) "__setattr__" = some (some (.builtin "object.__setattr__"))) (exC : PySem.W.subIn K (.ref C) (.type "BaseException") = some true) (tyC : PySem.W.typeIn K (.ref C) = some (.type "type")) (kC : PySem.W.keepIn K (.ref C) = true)
    (ini : PySem.W.findIn K (.ref C) "__init__" = some (some (.ref f))) (tyf : PySem.W.typeIn K (.ref f) = some (.type "function"))
    (lf : K.lookup f = some ⟨oc, od, .func (PySem.W.ksFn "__init__" qual (defArgs st) (defBody st) (defScope st) .none kV doc pm an (.ref cda) ct cc), osl⟩) (cf : PySem.W.codeIn K (.ref cda) qual = true)
    (lc : K.lookup cda = some ⟨ccl, cdd, .fields vs, ccs⟩) (hv : vs[2]? = some (.str file tf)) (hfile : ((pr.main.file : Str) == file) = true)
    (lcell : K.lookup cc = some ⟨cl, cld, .cell (some (.ref C)), csl⟩) (hcls : PySem.W.clsIn K C = some cd) (hmro : PySem.W.mroIn K C (.ref C) = some true)
    (sup : PySem.W.ks_superIn K C C "__init__" = some (some (.builtin "ValueError.__init__"))) (subV : PySem.W.subIn K (.ref C) (.type "ValueError") = some true)
    (nosup : PySem.W.nsIn K mainGlobals "super" = some none) (noany : PySem.W.nsIn K PySem.cStatics "thirdparty.any" = some none) (top : (pr.main.scope.names.lookup ("super" : Str)).isSome = false)
    (fin : PySem.W.findIn K (.ref C) fld = some none)
    (ga : PySem.W.findIn K (.ref C) "__getattribute__" = some (some (.builtin "BaseException.__getattribute__"))) (gg : PySem.W.findIn K (.ref C) "__getattr__" = some none) (hdC : PySem.W.hasDictIn K C = true)
    (hb : ∀ (kV doc pm : Value) (an : Option Addr) (cdv ct : Value) (cc : Addr) (us : List Value), us.length = (["self", fld] : List Str).length → bindArgs (PySem.W.ksFn "__init__" qual (defArgs st) (defBody st) (defScope st) .none kV doc pm an cdv ct cc) ⟨us, []⟩ = pure ((["self", fld] : List Str).zip us)) : Ex K mg pr x fld msg st where
  C := C
  g := PySem.W.mg_of X G aC
  k := {
    f := f
    fd := PySem.W.ksFn "__init__" qual (defArgs st) (defBody st) (defScope st) .none kV doc pm an (.ref cda) ct cc
    T := ⟨⟨nm, q, N, bs, bm, sn, sub, ab, col, dd, m0, m1, m2, m3, m5, xL, hbm⟩, sa, exC, tyC, kC⟩
    cc := cc
    cda := cda
    ex := ⟨oc, od, kV, doc, pm, an, ct, osl, qual, rfl, lf, cf⟩
    code := ⟨ccl, cdd, vs, ccs, file, tf, lc, hv, hfile⟩
    cell := ⟨cl, cld, csl, lcell⟩
    cls := ⟨cd, hcls⟩
    mro := hmro
    sup := sup
    sub := subV
    nosup := nosup
    noany := noany
    top := top
    fin := fin
    ini := ini
    tf := tyf }
  b := .all (hb kV doc pm an (.ref cda) ct cc)
  xf := ⟨ga, gg, exC, hdC⟩
end
end DL
namespace DL
open PySem
open PySem.Spec
open PyProof.Rows
open L2
def tyN : D → Option String
  | .none => some "NoneType"
  | .bool _ => some "bool"
  | .int _ => some "int"
  | .str _ => some "str"
  | .list _ => some "list"
  | .tuple _ => some "tuple"
  | .dict _ => none
def isiD (T : String) (d : D) : Option Bool := (tyN d).bind fun t => kitB t T
def eIsi (T : String) (fe : EF) : EF := fun ρ g => (fe ρ g).bind fun x g1 => match isiD T x with
  | some b => .ok (.bool b) g1
  | none => .bad
theorem tyX_of {c : Ctx} {F H : Hp} (sm : Same F H) {v : V} {d : D} (r : Rep c F v d) {t : String} (ht : tyN d = some t) : TyX c.K H v (.type t) := by
  cases d with
  | none => cases r.non; cases ht; exact .base .non
  | bool b => cases r.bl; cases ht; exact .base (.bl b)
  | int i => cases r.int; cases ht; exact .base (.int i)
  | str z => cases r.str; cases ht; exact .base (.str z)
  | list xs =>
    obtain ⟨a, vs, rfl, h1, _⟩ := r.list
    cases ht
    exact .base (.lst (sm _ _ h1))
  | tuple xs =>
    obtain ⟨a, vs, rfl, h1, _⟩ := r.tuple
    cases ht
    rcases h1 with (h1 | ⟨o, h1⟩) | ⟨o, its, n, h1, h2, _⟩
    · exact .base (.tup (sm _ _ h1))
    · exact .fTuple (sm _ _ h1)
    · exact .kTuple h1 h2
  | dict _ => cases ht
section
variable {X : Cx} {c : Ctx} {W : WX} {pos p p2 : Pos} {x : Str} {e : Expr} {fe : EF} {T : String} {es : List Expr}
theorem d_isi (hK : c.K = X.K) (hg : Gl X "isinstance") (hm : X.mg "isinstance" = none) (ha : PA X (e :: es) (tCons (tE c W fe) (tCons (tC (.ty T)) tNil)))
    (he : starEach (e :: es) X.env = (false, eval e X.env) :: starEach es X.env := by rfl) (hpl : (backTo pos (starEach es X.env)).any (·.1) = false := by rfl) : DE X c W (.Call (.Name "isinstance" p) (e :: es) [] pos) (eIsi T fe) :=
  PE.imp (pe_callB call_isi hg hm (by decide +kernel) ha (by decide) (by decide) he hpl) fun σ H Q ⟨F, ρ, g, s, h⟩ => ⟨F, ρ, g, s, PostG.bind s h fun d g1 v F1 H1 e1 s1 r1 h1 => by
    split at h1
    · rename_i b hb
      unfold isiD at hb
      cases ht : tyN d with
      | none => rw [ht] at hb; cases hb
      | some t =>
        rw [ht] at hb
        refine ⟨v, .ty T, .type t, .type T, b, rfl, .ty T, ?_, kit_ty hb, h1.now s1 rBl⟩
        rw [← hK]
        exact tyX_of s1.fh r1 ht
    · exact h1.elim⟩
end
def rGetL (K : PySem.W.Frag) : V → V → Hp → VK → Prop := fun x y H Q => ∃ p xs i v, x = .ref p ∧ y = .int i ∧ SqL K H p xs ∧ atI xs i = some v ∧ Q v H
theorem get_list {X : Cx} : PGet X (rGetL X.K) := by
  intro pins s σ H x y v u Q I rx ry h
  obtain ⟨p, xs, i, z, rfl, rfl, hq, he, q⟩ := h
  cases rx
  obtain ⟨t, rfl⟩ := ry
  obtain ⟨its, r, pl, hz⟩ := I.list hq
  obtain ⟨j, h1, h2, h3, h4, h5⟩ := atI_get he
  obtain ⟨w, ew, rw'⟩ := r.get h2
  have hl := r.length
  have hn := line63
  have fin : EP X pins σ Q w s := ⟨z, H, I, rw', q⟩
  by_cases h0 : 0 ≤ i
  · have hj : i.toNat = j := by
      rw [seqIndex_of h0 h5] at h1
      exact Option.some.inj h1
    exact wpAny_getItem_list pl.isList h0 (by omega) (by rw [hj]; simpa using ew) fin
  · have hj : (i + (its.toArray.size : Int)).toNat = j := by
      rw [seqIndex_neg (by omega) h4] at h1
      rw [List.size_toArray, ← hl]
      exact Option.some.inj h1
    exact wpAny_getItem_list_neg pl.isList (by omega) (by rw [List.size_toArray] <;> omega) (by omega) (by rw [hj]; simpa using ew) fin
def sAugIx (i : Nat) (φ : Int → Int → Int) (fj fe : EF) : SF := fun ρ g => match ρ[i]? with
  | some (.own xs) => (fj ρ g).go ρ fun j g1 => match j with
    | .int n => match ixN xs.length n with
      | some m => match xs[m]? with
        | some (.int a) => (fe ρ g1).go ρ fun d g2 => match d with
          | .int b => .nx (ρ.set i (.own (xs.set m (.int (φ a b))))) g2
          | _ => .bad
        | _ => .bad
      | none => .bad
    | _ => .bad
  | _ => .bad
section
variable {X : Cx} {c : Ctx} {W : WX} {st : Stmt} {fe fj : EF} {φ : Int → Int → Int}
theorem ds_augIx {i : Nat} (hK : c.K = X.K) (h : PS X st (tAugS (tVar i) (tE c W fj) (tE c W fe) (rGetL X.K) (ipI φ) rSetL)) : DS X c W st (sAugIx i φ fj fe) := PS.imp h fun E σ H ⟨F, ρ, g, s, h⟩ => by
  unfold sAugIx at h
  split at h
  · rename_i xs hi
    obtain ⟨a, vs, k1, k2, k3, k4, k5⟩ := s.own hi
    refine ⟨.ref a, k1, F, ρ, g, s, go_post s h fun j g1 v F1 H1 e1 s1 r1 h1 => ?_⟩
    obtain ⟨a', vs1, m1, m2, m3, m4, m5⟩ := s1.own hi
    rw [k1] at m1
    cases m1
    cases j with
    | int n =>
      cases r1.int
      simp only at h1
      split at h1
      · rename_i m hm
        split at h1
        · rename_i a0 ha0
          obtain ⟨w, hw, rw0⟩ := m3.get ha0
          cases rw0
          refine ⟨a, vs1, n, .int a0, rfl, rfl, SqL.of m2, ?_, F1, ρ, g1, s1, go_post s1 h1 fun d g2 u F2 H2 e2 s2 r2 h2 => ?_⟩
          · unfold atI
            rw [m3.len, hm]
            exact hw
          · obtain ⟨a', vs2, q1, q2, q3, q4, q5⟩ := s2.own hi
            rw [k1] at q1
            cases q1
            cases d with
            | int b =>
              cases r2.int
              exact ⟨a0, b, rfl, rfl, a, vs2, n, m, rfl, rfl, q2, by rw [q3.len]; exact hm, h2.nx' (s2.updO hi k1 q2 q4 q5 (RqAll.set (.int (φ a0 b)) m q3))⟩
            | _ => exact h2.elim
        · exact h1.elim
      · exact h1.elim
    | _ => exact h1.elim
  · exact h.elim
end
def GlobD (K : PySem.W.Frag) (mg : Str → Option Value) (x : Str) (d : D) : Prop := ∃ (v : V) (u : Value), mg x = some u ∧ RelV v u ∧ ∀ F, Rq K F v d
theorem d_glob {X : Cx} {c : Ctx} {W : WX} {pos : Pos} {x : Str} {d : D} (hK : c.K = X.K) (hg : Gl X x) (h : GlobD X.K X.mg x d) (hdb : (x == ("__debug__" : Str)) = false := by decide) : DE X c W (.Name x pos) (eC d) := by
  obtain ⟨v, u, h1, h2, h3⟩ := h
  exact PE.imp (pe_glob hg h1 h2 hdb) fun σ H Q ⟨F, ρ, g, s, h⟩ => h.now s (.inl (by rw [hK]; exact h3 F))
theorem glob_int {K : PySem.W.Frag} {mg : Str → Option Value} {h : Heap} {x : Str} {i : Int} {t : Tok} (X : K.In h) (G : h.Ns mainGlobals mg) (a : PySem.W.nsIn K mainGlobals x = some (some (.int i t))) : GlobD K mg x (.int i) :=
  ⟨.int i, .int i t, PySem.W.mg_of X G a, ⟨t, rfl⟩, fun _ => .int i⟩
inductive IntVs : List Value → List Int → Prop
  | nil : IntVs [] []
  | cons {i : Int} {t : Tok} {us : List Value} {is : List Int} : IntVs us is → IntVs (.int i t :: us) (i :: is)
theorem IntVs.vals : ∀ {us : List Value} {is : List Int}, IntVs us is → Vals (is.map V.int) us
  | _, _, .nil => .nil
  | _, _, .cons (t := t) h => .cons ⟨t, rfl⟩ (IntVs.vals h)
theorem IntVs.len : ∀ {us : List Value} {is : List Int}, IntVs us is → us.length = is.length
  | _, _, .nil => rfl
  | _, _, .cons h => by rw [List.length_cons, List.length_cons, IntVs.len h]
theorem glob_tup {K : PySem.W.Frag} {mg : Str → Option Value} {h : Heap} {x : Str} {a : Addr} {dd : Option Addr} {us : List Value} {n : Nat} {sl : Array (Option Value)} {is : List Int} (X : K.In h) (G : h.Ns mainGlobals mg) (e : PySem.W.nsIn K mainGlobals x = some (some (.ref a)))
    (l : K.lookup a = some ⟨.type "tuple", dd, .seq us.toArray n, sl⟩) (hu : IntVs us is) (hl : is.length ≤ LIM) : GlobD K mg x (.tuple (is.map .int)) :=
  ⟨.ref a, .ref a, PySem.W.mg_of X G e, rfl, fun F => .tup (.inr ⟨_, us.toArray, n, l, rfl, rfl, by rw [List.size_toArray, hu.len]; exact lim_ok hl, hu.vals⟩) (dpInts is)⟩
end DL
namespace DL
open PySem
open PySem.Spec
open PyProof.Rows
open L2
theorem compF_exc {b : BF} {ft : TF} {fe : EF} {ρ : RS} : ∀ {xs : List D} {g : G} {n : Str} {fs : List (Str × D)} {g' : G}, compF b ft fe ρ xs g ≠ .exc n fs g'
  | [], _, _, _, _, h => by simp only [compF] at h; cases h
  | x :: xs, g, n, fs, g', h => by
    simp only [compF] at h
    split at h
    · cases h
    · split at h
      · split at h
        · split at h
          · rename_i d g2 _ _
            cases q : compF b ft fe ρ xs g2 with
            | ok r g3 => rw [q] at h; cases h
            | exc _ _ _ => exact compF_exc q
            | bad => rw [q] at h; cases h
          · cases h
        · cases h
      · exact compF_exc h
      · cases h
def compF2 (vs1 : List Nat) (b : BF) (ft : TF) (fi1 : LF) (b1 : BF) (ft1 : TF) (fe : EF) (ρ : RS) : List D → G → Out (List D)
  | [], g => .ok [] g
  | x :: xs, g => match b x ρ with
    | none => .bad
    | some ρ1 => match ft ρ1 g with
      | .ok true g1 => (match fi1 ρ1 g1 with
        | .ok items g2 => (compF b1 ft1 fe (wipeR ρ1 vs1) items g2).bind fun r g3 => (compF2 vs1 b ft fi1 b1 ft1 fe ρ xs g3).bind fun r2 g4 => .ok (r ++ r2) g4
        | _ => .bad)
      | .ok false g1 => compF2 vs1 b ft fi1 b1 ft1 fe ρ xs g1
      | _ => .bad
theorem compF2_exc {vs1 : List Nat} {b : BF} {ft : TF} {fi1 : LF} {b1 : BF} {ft1 : TF} {fe : EF} {ρ : RS} : ∀ {xs : List D} {g : G} {n : Str} {fs : List (Str × D)} {g' : G}, compF2 vs1 b ft fi1 b1 ft1 fe ρ xs g ≠ .exc n fs g'
  | [], _, _, _, _, h => by simp only [compF2] at h; cases h
  | x :: xs, g, n, fs, g', h => by
    unfold compF2 at h
    cases hb : b x ρ with
    | none => rw [hb] at h; cases h
    | some ρ1 =>
      simp only [hb] at h
      cases ht : ft ρ1 g with
      | bad => rw [ht] at h; cases h
      | exc a b c => rw [ht] at h; cases h
      | ok k g1 =>
        cases k with
        | false =>
          simp only [ht] at h
          exact compF2_exc h
        | true =>
          simp only [ht] at h
          cases hi : fi1 ρ1 g1 with
          | bad => rw [hi] at h; cases h
          | exc a b c => rw [hi] at h; cases h
          | ok items g2 =>
            simp only [hi] at h
            cases q : compF b1 ft1 fe (wipeR ρ1 vs1) items g2 with
            | bad => rw [q] at h; cases h
            | exc a b c => exact compF_exc q
            | ok r g3 =>
              rw [q] at h
              cases q2 : compF2 vs1 b ft fi1 b1 ft1 fe ρ xs g3 with
              | bad => simp only [Out.bind, q2] at h; cases h
              | exc a b c => exact compF2_exc q2
              | ok r2 g4 => simp only [Out.bind, q2] at h; cases h
def fin2 (ds : List D) (g : G) : Out (List D) := if ds.length ≤ LIM then .ok ds g else .bad
def oComp2 (vs vs1 : List Nat) (fi : LF) (b : BF) (ft : TF) (fi1 : LF) (b1 : BF) (ft1 : TF) (fe : EF) : OF' := fun ρ g => (fi ρ g).bind fun items g1 => (compF2 vs1 b ft fi1 b1 ft1 fe (wipeR ρ vs) items g1).bind fin2
structure MidB (c : Ctx) (F1 H1 F H : Hp) (g : G) (A : Addr) (acc : List D) (va : List V) : Prop where
  ext : Ext c.sa c.sb F1 H1 F H
  gok : GOk c F H g
  ha : H A = some (.lst va)
  fa : F A = none
  rq : RqAll c.K F va acc
theorem MidB.up {c : Ctx} {F1 H1 F H F' H' : Hp} {g g' : G} {A : Addr} {acc : List D} {va : List V} (m : MidB c F1 H1 F H g A acc va) (e : Ext c.sa c.sb F H F' H') (gk : GOk c F' H' g') (na : A ≠ c.sa) (nb : A ≠ c.sb) : MidB c F1 H1 F' H' g' A acc va :=
  ⟨m.ext.trans e, gk, e.keep A _ m.ha na nb, by rw [e.ff A _ m.ha]; exact m.fa, RqAll_mono e.f _ _ m.rq⟩
theorem MidB.add {c : Ctx} {F1 H1 F H : Hp} {g : G} {A : Addr} {acc : List D} {va : List V} (m : MidB c F1 H1 F H g A acc va) (nA : H1 A = none) (na : A ≠ c.sa) (nb : A ≠ c.sb) {y : V} {d : D} (r : Rq c.K F y d) : MidB c F1 H1 F (upd H A (.lst (va ++ [y]))) g A (acc ++ [d]) (va ++ [y]) := by
  refine ⟨⟨m.ext.f, fun q o z => ?_, fun q o z n k => ?_, fun q o z => ?_, m.ext.ff⟩, m.gok.ext rfl rfl (upd_ne na.symm) (upd_ne nb.symm), upd_same, m.fa, m.rq.append (.cons r .nil)⟩
  · rw [upd_ne (ne_of_none z m.fa)]; exact m.ext.fh q o z
  · rw [upd_ne (ne_of_none z nA)]; exact m.ext.keep q o z n k
  · rw [upd_ne (ne_of_none z nA)]; exact m.ext.dom q o z
def delH (H : Hp) (A : Addr) : Hp := fun q => if q = A then none else H q
theorem delH_ne {H : Hp} {A q : Addr} (h : q ≠ A) : delH H A q = H q := if_neg h
theorem delH_some {H : Hp} {A q : Addr} {o : HO} (h : delH H A q = some o) : q ≠ A ∧ H q = some o := by
  unfold delH at h
  split at h
  · cases h
  · rename_i n
    exact ⟨n, h⟩
def BOk (b : BF) : Prop := ∀ (x : D) (ρ ρ' : RS), b x ρ = some ρ' → ∀ (j : Nat) (ys : List D), ρ'[j]? = some (.own ys) → ρ[j]? = some (.own ys)
def BsOk (b : List D → RS → Option RS) : Prop := ∀ (x : List D) (ρ ρ' : RS), b x ρ = some ρ' → ∀ (j : Nat) (ys : List D), ρ'[j]? = some (.own ys) → ρ[j]? = some (.own ys)
theorem bok_name {i : Nat} : BOk (bName i) := fun x ρ ρ' h j ys hj => by
  cases h
  by_cases e : i = j
  · subst e
    by_cases hi : i < ρ.length
    · rw [List.getElem?_set_self hi] at hj; cases hj
    · rw [List.getElem?_eq_none (by rw [List.length_set]; omega)] at hj; cases hj
  · rw [List.getElem?_set_ne e] at hj
    exact hj
theorem bok_nil : BsOk bNil := fun x ρ ρ' h j ys hj => by
  unfold bNil at h
  split at h
  · cases h; exact hj
  · cases h
theorem bok_cons {b : BF} {bs : List D → RS → Option RS} (h1 : BOk b) (h2 : BsOk bs) : BsOk (bCons b bs) := fun x ρ ρ' h j ys hj => by
  unfold bCons at h
  split at h
  · obtain ⟨ρ1, e1, e2⟩ := Option.bind_eq_some_iff.mp h
    exact h1 _ _ _ e1 j ys (h2 _ _ _ e2 j ys hj)
  · cases h
theorem bok_tup {n : Nat} {bs : List D → RS → Option RS} (h2 : BsOk bs) : BOk (bTup n bs) := fun x ρ ρ' h j ys hj => by
  unfold bTup at h
  split at h
  · split at h
    · exact h2 _ _ _ h j ys hj
    · cases h
  · cases h
theorem wipeR_own {ρ : RS} {j : Nat} {ys : List D} : ∀ {vs : List Nat}, (wipeR ρ vs)[j]? = some (.own ys) → ρ[j]? = some (.own ys) ∧ j ∉ vs
  | [], h => ⟨h, by simp⟩
  | v :: vs, h => by
    unfold wipeR at h
    by_cases e : v = j
    · subst e
      by_cases hi : v < (wipeR ρ vs).length
      · rw [List.getElem?_set_self hi] at h; cases h
      · rw [List.getElem?_eq_none (by rw [List.length_set]; omega)] at h; cases h
    · rw [List.getElem?_set_ne e] at h
      obtain ⟨h1, h2⟩ := wipeR_own (vs := vs) h
      exact ⟨h1, fun z => (List.mem_cons.mp z).elim (fun q => e q.symm) h2⟩
theorem SR.delA {c : Ctx} {F H : Hp} {σ : L2.St} {ρ : RS} {g : G} {A : Addr} {va : List V} (s : SR c F H σ ρ g) (hA : H A = some (.lst va)) (fa : F A = none) (h0 : c.H0 A = none) (hno : ∀ (j : Nat) (ys : List D), ρ[j]? = some (.own ys) → σ[j]? ≠ some (some (.ref A))) : SR c F (delH H A) σ ρ g where
  ext := ⟨s.ext.f, fun q o z => by rw [delH_ne (ne_of_none z fa)]; exact s.ext.fh q o z, fun q o z n k => by rw [delH_ne (ne_of_none z h0)]; exact s.ext.keep q o z n k, fun q o z => by rw [delH_ne (ne_of_none z h0)]; exact s.ext.dom q o z, s.ext.ff⟩
  gok := by
    obtain ⟨n1, n2⟩ := s.ownNe h0
    exact s.gok.ext rfl rfl (delH_ne n1.symm) (delH_ne n2.symm)
  g0 := s.g0
  len := s.len
  slots := fun i x h => by
    have q := s.slots i x h
    cases x with
    | un => trivial
    | d x => exact q
    | own xs =>
      obtain ⟨a, vs, h1, h2, h3, h4, h5⟩ := q
      have n : a ≠ A := fun e => hno i xs h (by rw [h1, e])
      exact ⟨a, vs, h1, by rw [delH_ne n]; exact h2, h3, h4, h5⟩
    | ex fs =>
      obtain ⟨vs, h1, h2, h3⟩ := q
      have n : c.ed ≠ A := fun e => by rw [e, hA] at h2; cases h2
      exact ⟨vs, h1, by rw [delH_ne n]; exact h2, h3⟩
    | odc kvs =>
      obtain ⟨a, h1, h2, h3, h4⟩ := q
      have n : a ≠ A := fun e => by rw [e, hA] at h2; cases h2
      exact ⟨a, h1, by rw [delH_ne n]; exact h2, h3, h4⟩
    | ods ks =>
      obtain ⟨a, L, h1, h2, h3, h4, h5, h6⟩ := q
      have n : a ≠ A := fun e => by rw [e, hA] at h2; cases h2
      exact ⟨a, L, h1, by rw [delH_ne n]; exact h2, h3, h4, h5, h6⟩
  sep := s.sep
section
variable {X : Cx} {c : Ctx} {W : WX} {pos : Pos} {tg iter tg1 iter1 elt : Expr} {ifs ifs1 : List Expr} {scope : Scope} {own : List (Str × Nat)} {vs1 is is1 : List Nat} {fi fi1 : LF} {b b1 : BF} {ft ft1 : TF} {fe : EF}
theorem lc2_post (hbk : BOk b) {σ : L2.St} {ρ : RS} {items : List D} {vs : List Nat} {F1 H1 : Hp} {g1 : G} {Q : VK} {J : It} {A : Addr} (s1 : SR c F1 H1 σ ρ g1) (hJ : IterR c F1 J items) (nA : H1 A = none) (sub : ∀ i ∈ is, i ∈ vs) (sub1 : ∀ i ∈ is1, i ∈ vs1)
    (h : PostO c σ ((compF2 vs1 b ft fi1 b1 ft1 fe (wipeR ρ vs) items g1).bind fin2) F1 H1 W Q) :
    ∃ Wv : Nat → Nat → Hp → Prop, (∃ m, Wv 0 m (upd H1 A (.lst []))) ∧ ∀ i m H, Wv i m H → (J.stop i H ∧ Q (.ref A) H) ∨ (J.go i H ∧ ∃ Nx : Hp → Prop, (∀ H', Nx H' → ∃ m', m' < m ∧ Wv (i + 1) m' H') ∧ ∀ x H', J.yld i H x H' → tG c is b x (wipe σ vs) H' fun σ2 H2 => wipe σ2 vs = wipe σ vs ∧ tT c W0 ft σ2 H2 fun k H3 =>
      if k = true then tI c W0 fi1 σ2 H3 fun J1 H4 => ∃ W1 : Nat → Nat → Hp → Prop, (∃ m, W1 0 m H4) ∧ ∀ j k H, W1 j k H →
        (J1.stop j H ∧ Nx H) ∨ (J1.go j H ∧ ∃ Nx1 : Hp → Prop, (∀ H', Nx1 H' → ∃ k', k' < k ∧ W1 (j + 1) k' H') ∧ ∀ x H', J1.yld j H x H' → tG c is1 b1 x (wipe σ2 vs1) H' fun σ3 H5 => wipe σ3 vs1 = wipe σ2 vs1 ∧ tT c W0 ft1 σ3 H5 fun b H6 =>
          if b = true then tE c W0 fe σ3 H6 fun y H7 => ∃ acc, H7 A = some (.lst acc) ∧ acc.length < sizeLine ∧ Nx1 (upd H7 A (.lst (acc ++ [y]))) else Nx1 H6)
      else Nx H3) := by
  have nas : A ≠ c.sa := (ne_of_none s1.gok.ha nA).symm
  have nab : A ≠ c.sb := (ne_of_none s1.gok.hb nA).symm
  generalize hfull : (compF2 vs1 b ft fi1 b1 ft1 fe (wipeR ρ vs) items g1).bind fin2 = full at h
  have nbad : full ≠ .bad := fun e => by rw [e] at h; exact h
  refine ⟨fun i m H => ∃ F g va acc, m = items.length - i ∧ i ≤ items.length ∧ MidB c F1 H1 F H g A acc va ∧ full = (compF2 vs1 b ft fi1 b1 ft1 fe (wipeR ρ vs) (items.drop i) g).bind fun r g => fin2 (acc ++ r) g,
    ⟨items.length, F1, g1, [], [], by omega, Nat.zero_le _, ⟨Ext.newM s1.fh nA, s1.gok.newM nA, upd_same, s1.fnone nA, .nil⟩, ?_⟩, ?_⟩
  · rw [List.drop_zero, ← hfull]
    rfl
  rintro i m H ⟨F, g, va, acc, rfl, hi, M, eq⟩
  have sm : Same F1 H := M.ext.f.trans M.ext.fh
  by_cases hlt : i < items.length
  · have hd : items[i]? = some items[i] := List.getElem?_eq_getElem hlt
    have hdr : items.drop i = items[i] :: items.drop (i + 1) := List.drop_eq_getElem_cons hlt
    obtain ⟨go, yl⟩ := (hJ i H sm).1 _ hd
    rw [hdr] at eq
    refine .inr ⟨go, _, fun H' h => h, fun x H' y => ?_⟩
    obtain ⟨rfl, rx⟩ := yl x H' y
    have sw : SR c F H' (wipe σ vs) (wipeR ρ vs) g := (s1.wipe vs).ext' M.ext M.gok
    simp only [compF2] at eq
    cases hb : b items[i] (wipeR ρ vs) with
    | none => simp only [hb, Out.bind] at eq; exact absurd eq nbad
    | some ρ1 =>
      simp only [hb] at eq
      refine ⟨F, wipeR ρ vs, g, items[i], ρ1, sw, rx.mono M.ext.f, hb, fun σ2 s2 b2 => ⟨b2.wipe sub, F, ρ1, g, s2, ?_⟩⟩
      cases ht : ft ρ1 g with
      | bad => simp only [ht, Out.bind] at eq; exact absurd eq nbad
      | exc n fs g2 => simp only [ht, Out.bind] at eq; exact absurd eq nbad
      | ok k g2 =>
        intro k' F2 H2 e2 gk2 rk
        cases rk
        have s3 := s2.ext' e2 gk2
        have M2 := M.up e2 gk2 nas nab
        cases k with
        | false =>
          simp only [ht] at eq
          rw [if_neg Bool.false_ne_true]
          exact ⟨items.length - (i + 1), by omega, F2, g2, va, acc, rfl, hlt, M2, eq⟩
        | true =>
          simp only [ht] at eq
          rw [if_pos rfl]
          refine ⟨F2, ρ1, g2, s3, ?_⟩
          cases hi1 : fi1 ρ1 g2 with
          | bad => simp only [hi1, Out.bind] at eq; exact absurd eq nbad
          | exc n fs g3 => simp only [hi1, Out.bind] at eq; exact absurd eq nbad
          | ok items1 g3 =>
            simp only [hi1] at eq
            intro J1 F3 H3 e3 gk3 hJ1
            have s4 := s3.ext' e3 gk3
            have M3 := M2.up e3 gk3 nas nab
            refine ⟨fun j k H => ∃ F g va acc, k = items1.length - j ∧ j ≤ items1.length ∧ Ext c.sa c.sb F3 (delH H3 A) F H ∧ MidB c F1 H1 F H g A acc va ∧
              full = (compF b1 ft1 fe (wipeR ρ1 vs1) (items1.drop j) g).bind fun r g4 => (compF2 vs1 b ft fi1 b1 ft1 fe (wipeR ρ vs) (items.drop (i + 1)) g4).bind fun r2 g5 => fin2 (acc ++ (r ++ r2)) g5,
              ⟨items1.length, F3, g3, va, acc, by omega, Nat.zero_le _, ?_, M3, ?_⟩, ?_⟩
            · exact ⟨Same.refl F3, s4.fh, fun q o z _ _ => (delH_some z).2, fun q o z => ⟨o, (delH_some z).2⟩, fun q o z => rfl⟩
            · rw [List.drop_zero, eq]
              cases compF b1 ft1 fe (wipeR ρ1 vs1) items1 g3 with
              | bad => rfl
              | exc n fs g4 => rfl
              | ok r g4 =>
                simp only [Out.bind]
                cases compF2 vs1 b ft fi1 b1 ft1 fe (wipeR ρ vs) (items.drop (i + 1)) g4 with
                | bad => rfl
                | exc n fs g5 => rfl
                | ok r2 g5 => rfl
            · have h0A : c.H0 A = none := by
                cases q : c.H0 A with
                | none => rfl
                | some o =>
                  obtain ⟨o', q'⟩ := s1.ext.dom A o q
                  rw [q'] at nA
                  cases nA
              have s4d : SR c F3 (delH H3 A) σ2 ρ1 g3 := s4.delA M3.ha M3.fa h0A fun j ys hj he => by
                have h5 := hbk _ _ _ hb j ys hj
                obtain ⟨h6, h7⟩ := wipeR_own h5
                obtain ⟨a, vs', k1, k2, _⟩ := s1.own h6
                have k3 : (wipe σ vs)[j]? = σ[j]? := L2.wipe_out h7
                have k4 : σ2[j]? = (wipe σ vs)[j]? := b2.2 j fun z => h7 (sub j z)
                rw [k4, k3, k1] at he
                cases he
                rw [k2] at nA
                cases nA
              rintro j k H ⟨F4, g4, va4, acc4, rfl, hj, e4, M4, eq4⟩
              have sm1 : Same F3 H := e4.f.trans e4.fh
              by_cases hlt1 : j < items1.length
              · have hd1 : items1[j]? = some items1[j] := List.getElem?_eq_getElem hlt1
                have hdr1 : items1.drop j = items1[j] :: items1.drop (j + 1) := List.drop_eq_getElem_cons hlt1
                obtain ⟨go1, yl1⟩ := (hJ1 j H sm1).1 _ hd1
                rw [hdr1] at eq4
                refine .inr ⟨go1, _, fun H' h => h, fun x1 H' y1 => ?_⟩
                obtain ⟨rfl, rx1⟩ := yl1 x1 H' y1
                have sw1 : SR c F4 H' (wipe σ2 vs1) (wipeR ρ1 vs1) g4 := (s4d.wipe vs1).ext' e4 M4.gok
                simp only [compF] at eq4
                cases hb1 : b1 items1[j] (wipeR ρ1 vs1) with
                | none => simp only [hb1, Out.bind] at eq4; exact absurd eq4 nbad
                | some ρ2 =>
                  simp only [hb1] at eq4
                  refine ⟨F4, wipeR ρ1 vs1, g4, items1[j], ρ2, sw1, rx1.mono e4.f, hb1, fun σ3 s5 b5 => ⟨b5.wipe sub1, F4, ρ2, g4, s5, ?_⟩⟩
                  cases ht1 : ft1 ρ2 g4 with
                  | bad => simp only [ht1, Out.bind] at eq4; exact absurd eq4 nbad
                  | exc n fs g5 => simp only [ht1, Out.bind] at eq4; exact absurd eq4 nbad
                  | ok k g5 =>
                    intro k' F5 H5 e5 gk5 rk
                    cases rk
                    have s6 := s5.ext' e5 gk5
                    have M5 := M4.up e5 gk5 nas nab
                    cases k with
                    | false =>
                      simp only [ht1] at eq4
                      rw [if_neg Bool.false_ne_true]
                      exact ⟨items1.length - (j + 1), by omega, F5, g5, va4, acc4, rfl, hlt1, e4.trans e5, M5, eq4⟩
                    | true =>
                      simp only [ht1] at eq4
                      rw [if_pos rfl]
                      refine ⟨F5, ρ2, g5, s6, ?_⟩
                      cases he : fe ρ2 g5 with
                      | bad => simp only [he, Out.bind] at eq4; exact absurd eq4 nbad
                      | exc n fs g6 => simp only [he, Out.bind] at eq4; exact absurd eq4 nbad
                      | ok d g6 =>
                        simp only [he] at eq4
                        intro y F6 H6 e6 gk6 ry
                        have M6 := M5.up e6 gk6 nas nab
                        by_cases hn : noTok [d] = true
                        · rw [if_pos hn] at eq4
                          have rd := RepAll.rq (RepAll.cons ry .nil) hn
                          have rq1 : Rq c.K F6 y d := by
                            cases rd with
                            | cons q _ => exact q
                          have M7 := M6.add nA nas nab rq1
                          have e7 := (e4.trans e5).trans e6
                          have nD : delH H3 A A = none := if_pos rfl
                          have hacc : acc4.length < LIM := by
                            cases qa : compF b1 ft1 fe (wipeR ρ1 vs1) (items1.drop (j + 1)) g6 with
                            | bad => simp only [qa, Out.bind] at eq4; exact absurd eq4 nbad
                            | exc n fs g7 => exact absurd qa compF_exc
                            | ok r g7 =>
                              simp only [qa, Out.bind] at eq4
                              cases qb : compF2 vs1 b ft fi1 b1 ft1 fe (wipeR ρ vs) (items.drop (i + 1)) g7 with
                              | bad => simp only [qb] at eq4; exact absurd eq4 nbad
                              | exc n fs g8 => exact absurd qb compF2_exc
                              | ok r2 g8 =>
                                simp only [qb] at eq4
                                unfold fin2 at eq4
                                split at eq4
                                · rename_i hle
                                  simp only [List.length_append, List.length_cons] at hle
                                  omega
                                · exact absurd eq4 nbad
                          refine ⟨va4, M6.ha, lim_lt (by rw [M6.rq.len]; exact hacc), items1.length - (j + 1), by omega, F6, g6, va4 ++ [y], acc4 ++ [d], rfl, hlt1, ?_, M7, ?_⟩
                          · refine ⟨e7.f, fun q o z => ?_, fun q o z n m => ?_, fun q o z => ?_, e7.ff⟩
                            · rw [upd_ne (ne_of_none z M6.fa)]; exact e7.fh q o z
                            · rw [upd_ne (ne_of_none z nD)]; exact e7.keep q o z n m
                            · rw [upd_ne (ne_of_none z nD)]; exact e7.dom q o z
                          · rw [eq4]
                            cases compF b1 ft1 fe (wipeR ρ1 vs1) (items1.drop (j + 1)) g6 with
                            | bad => rfl
                            | exc n fs g7 => rfl
                            | ok r g7 =>
                              simp only [Out.bind]
                              cases compF2 vs1 b ft fi1 b1 ft1 fe (wipeR ρ vs) (items.drop (i + 1)) g7 with
                              | bad => rfl
                              | exc n fs g8 => rfl
                              | ok r2 g8 => simp only [List.append_assoc, List.cons_append, List.nil_append]
                        · rw [if_neg hn] at eq4
                          simp only [Out.bind] at eq4
                          exact absurd eq4 nbad
              · have e : j = items1.length := by omega
                rw [e, List.drop_length] at eq4
                simp only [compF, Out.bind, List.nil_append] at eq4
                exact .inl ⟨(hJ1 j H sm1).2 (by omega), items.length - (i + 1), by omega, F4, g4, va4, acc4, rfl, hlt, M4, eq4⟩
  · have e : i = items.length := by omega
    rw [e, List.drop_length] at eq
    simp only [compF2, Out.bind, List.append_nil] at eq
    have eq : full = fin2 acc g := eq
    unfold fin2 at eq
    by_cases hl : acc.length ≤ LIM
    · rw [if_pos hl] at eq
      rw [eq] at h
      exact .inl ⟨(hJ i H sm).2 (by omega), h A va F H M.ext M.gok M.ha M.fa nA M.rq⟩
    · rw [if_neg hl] at eq
      exact absurd eq nbad
variable {st : Stmt}
theorem lc2_imp (hbk : BOk b) (sub : ∀ i ∈ is, i ∈ own.map (·.2)) (sub1 : ∀ i ∈ is1, i ∈ vs1) (σ : L2.St) (H : Hp) (Q : VK) (w : tEo c W (oComp2 (own.map (·.2)) vs1 fi b ft fi1 b1 ft1 fe) σ H Q) : tLc2 (tI c W fi) (tG c is b) (tT c W0 ft) (tI c W0 fi1) (tG c is1 b1) (tT c W0 ft1) (tE c W0 fe) (own.map (·.2)) vs1 σ H Q := by
  obtain ⟨F, ρ, g, s, h⟩ := w
  exact ⟨F, ρ, g, s, PostO.bind s h fun items g1 J F1 H1 e1 s1 r1 h1 => fun A nA => lc2_post hbk s1 r1 nA sub sub1 h1⟩
theorem o_lc2 {pos : Pos} {elt tg iter tg1 iter1 : Expr} (hbk : BOk b) (hc : X.calm = true) (hN : X.N.Nodup) (hi : DI X c W tg iter fi) (ok : BlkOk X.N X.env.scope scope own) (hv : ∀ i ∈ vs1, i ∈ own.map (·.2)) (sub : ∀ i ∈ is, i ∈ own.map (·.2)) (sub1 : ∀ i ∈ is1, i ∈ vs1)
    (hg : ∀ (s : Shared) (H : Hp) (C : Addr) (cl : List (Str × Addr)) (fp : List Addr), DG (X.blk s H scope (compEnvC scope cl C X.env) fp) c is tg b) (ht : ∀ (s : Shared) (H : Hp) (C : Addr) (cl : List (Str × Addr)) (fp : List Addr), PTs (X.blk s H scope (compEnvC scope cl C X.env) fp) ifs (tT c W0 ft))
    (hi1 : ∀ (s : Shared) (H : Hp) (C : Addr) (cl : List (Str × Addr)) (fp : List Addr), DI (X.blk s H scope (compEnvC scope cl C X.env) fp) c W0 tg1 iter1 fi1)
    (hg1 : ∀ (s : Shared) (H : Hp) (C : Addr) (cl : List (Str × Addr)) (fp : List Addr), DG (X.blk s H scope (compEnvC scope cl C X.env) fp) c is1 tg1 b1) (ht1 : ∀ (s : Shared) (H : Hp) (C : Addr) (cl : List (Str × Addr)) (fp : List Addr), PTs (X.blk s H scope (compEnvC scope cl C X.env) fp) ifs1 (tT c W0 ft1))
    (he : ∀ (s : Shared) (H : Hp) (C : Addr) (cl : List (Str × Addr)) (fp : List Addr), DE (X.blk s H scope (compEnvC scope cl C X.env) fp) c W0 elt fe) (hs : ∀ x, foldedSetIterable iter X.env x = pure x := by intro _; rfl) (hs1 : ∀ env x, foldedSetIterable iter1 env x = pure x := by intro _ _; rfl) :
    DEo X c W (.ListComp elt [⟨tg, iter, ifs, 0⟩, ⟨tg1, iter1, ifs1, 0⟩] scope pos) (oComp2 (own.map (·.2)) vs1 fi b ft fi1 b1 ft1 fe) :=
  PE.imp (pe_lc2 hc hN hi ok hv hg ht hi1 hg1 ht1 he hs hs1) (lc2_imp hbk sub sub1)
theorem ds_lc2O {i : Nat} (hbk : BOk b) (sub : ∀ i ∈ is, i ∈ own.map (·.2)) (sub1 : ∀ i ∈ is1, i ∈ vs1) (h : PS X st (tAsg (tLc2 (tI c W fi) (tG c is b) (tT c W0 ft) (tI c W0 fi1) (tG c is1 b1) (tT c W0 ft1) (tE c W0 fe) (own.map (·.2)) vs1) (gName i))) : DS X c W st (sSetO i (oComp2 (own.map (·.2)) vs1 fi b ft fi1 b1 ft1 fe)) :=
  ds_setO (PS.imp h fun E σ H w => lc2_imp hbk sub sub1 σ H _ w)
theorem ds_lc2 {i : Nat} (hbk : BOk b) (sub : ∀ i ∈ is, i ∈ own.map (·.2)) (sub1 : ∀ i ∈ is1, i ∈ vs1) (h : PS X st (tAsg (tLc2 (tI c W fi) (tG c is b) (tT c W0 ft) (tI c W0 fi1) (tG c is1 b1) (tT c W0 ft1) (tE c W0 fe) (own.map (·.2)) vs1) (gName i))) : DS X c W st (sSet i (eOf (oComp2 (own.map (·.2)) vs1 fi b ft fi1 b1 ft1 fe))) :=
  ds_set (PS.imp h fun E σ H w => lc2_imp hbk sub sub1 σ H _ (of_imp σ H _ w))
end
end DL
namespace DL
open PySem
open PySem.Spec
open PyProof.Rows
open L2
section
variable {prog : Program} {w : World} {K : Type} [DecidableEq K] {knd : HeapKind prog w K} {A : Around} {E : Value → Shared → Prop} {s : Shared}
theorem samePairsH {nm : String} {a b : Addr} {xa xb : List (K × Addr × Value)} {Q : Bool → Shared → Prop} (ha : (a == sysModules) = false) (hb : (b == sysModules) = false) (hu : knd.room A)
    (da : s.heap.DictOfH knd a xa) (db : s.heap.DictOfH knd b xb) (hl : xa.length = xb.length)
    (hits : ∀ (i : Nat) (x : K × Addr × Value), xa[i]? = some x → ∃ (j : Nat) (p : Addr × Value), xb[j]? = some (x.1, p) ∧ SeqAt.EqAt A s x.2.2 p.2 true)
    (h : Q true s) : wpAny (model prog w) A (Builtin.Dict.samePairs nm a b) Q E s := by
  obtain ⟨oa, es, ep, hoa, _, hda, hea, hia, hna⟩ := da
  obtain ⟨ob, es', ep', hob, _, hdb, heb, hib, hnb⟩ := db
  have hla : es.size = xa.length := size_of_entries hea
  have hlb : es'.size = xb.length := size_of_entries heb
  have hsz : es.size = es'.size := by omega
  unfold Builtin.Dict.samePairs Builtin.Dict.showsAll
  rw [if_neg (show ¬ (a == sysModules) = true by rw [ha]; exact Bool.false_ne_true), if_neg (show ¬ (b == sysModules) = true by rw [hb]; exact Bool.false_ne_true)]
  refine wpAny_bind (wpAny_pure (wpAny_bind (wpAny_pure ?_)))
  refine wpAny_bind (wpAny_dictEntries hoa hda ?_)
  dsimp only
  refine wpAny_bind (wpAny_dictEntries hob hdb ?_)
  rw [if_neg (by rw [hsz]; simp)]
  refine wpAny_bind (wpAny_dictEpoch hoa hda ?_)
  refine wpAny_bind ?_
  rw [Std.Legacy.Range.forIn_eq_forIn_range']
  simp only [Std.Legacy.Range.size, Nat.sub_zero, Nat.add_sub_cancel, Nat.div_one]
  refine wpAny_forIn_list _
    (fun rest q s' => s' = s ∧ q = (none, ()) ∧ ∃ i, rest = List.range' i (es.size - i) ∧ i ≤ es.size)
    _ ?_ ?_ _ _ ⟨rfl, rfl, 0, by simp, Nat.zero_le _⟩
  · rintro x rest q s' ⟨rfl, rfl, i, hr, hi⟩
    have hlt : i < es.size := by
      rcases Nat.lt_or_ge i es.size with h | h
      · exact h
      · rw [Nat.sub_eq_zero_of_le h] at hr; simp at hr
    obtain ⟨rfl, hrest⟩ : x = i ∧ rest = List.range' (i + 1) (es.size - (i + 1)) := by
      have e : es.size - i = (es.size - (i + 1)) + 1 := by omega
      rw [e, List.range'_succ] at hr
      injection hr with h1 h2
      exact ⟨h1, h2⟩
    refine wpAny_bind (wpAny_dictEntries hoa hda ?_)
    rw [Array.getElem?_eq_getElem hlt]
    have hlt' : x < xa.length := by omega
    have hx : xa[x]? = some xa[x] := List.getElem?_eq_getElem hlt'
    have hent : es[x] = entryOfKey knd xa[x] := by
      have h1 := entry_at hea x
      rw [Array.getElem?_eq_getElem hlt, hx] at h1
      exact Option.some.inj h1
    obtain ⟨j, p, hj, he⟩ := hits x _ hx
    have hjl : j < es'.size := by
      have := (List.getElem?_eq_some_iff.mp hj).1
      omega
    have hej : es'[j]? = some (entryOfKey knd (xa[x].1, p)) := by rw [entry_at heb j, hj]; rfl
    have hm : xa[x] ∈ xa := List.mem_of_getElem? hx
    show wpAny _ _ (holding [es[x].key, es[x].val] _ >>= _) _ _ _
    rw [hent]
    show wpAny _ _ (holding [Value.ref xa[x].2.1, xa[x].2.2] _ >>= _) _ _ _
    refine wpAny_bind (wpAny_holding (wpAny_bind (wpAny_dictFind_heap hu (hia _ hm) hob hdb heb hib hnb (fun no => absurd hj (no j p)) fun j' p' hj' => ?_)))
    have ejj : j' = j ∧ p' = p := by
      have hn := hnb
      have h1 : (xb.map (·.1))[j']? = some xa[x].1 := by rw [List.getElem?_map, hj']; rfl
      have h2 : (xb.map (·.1))[j]? = some xa[x].1 := by rw [List.getElem?_map, hj]; rfl
      have h3 := (List.getElem?_inj (by rw [List.length_map]; exact (List.getElem?_eq_some_iff.mp hj').1) hn).mp (h1.trans h2.symm)
      subst h3
      rw [hj] at hj'
      injection hj' with h4
      injection h4 with _ h5
      exact ⟨rfl, h5.symm⟩
    obtain ⟨rfl, rfl⟩ := ejj
    refine wpAny_bind (wpAny_dictEntries hob hdb ?_)
    rw [hej]
    refine wpAny_holding (he prog w _ _ ?_)
    show wpAny _ _ (if (!true) = true then _ else _) _ _ _
    rw [if_neg (by decide)]
    refine wpAny_bind (wpAny_dictEpoch hoa hda ?_)
    rw [if_neg (by simp)]
    exact wpAny_pure ⟨rfl, rfl, x + 1, hrest, hlt⟩
  · rintro q s' ⟨rfl, rfl, i, hr, hi⟩
    exact wpAny_pure h
theorem eqH {neg : Bool} {a b : Addr} {xa xb : List (K × Addr × Value)} {Q : Value → Shared → Prop} (ha : (a == sysModules) = false) (hb : (b == sysModules) = false) (hu : A.units < cLine) (hr : knd.room A.in1)
    (da : s.heap.DictOfH knd a xa) (db : s.heap.DictOfH knd b xb) (hl : xa.length = xb.length)
    (hits : ∀ (i : Nat) (x : K × Addr × Value), xa[i]? = some x → ∃ (j : Nat) (p : Addr × Value), xb[j]? = some (x.1, p) ∧ SeqAt.EqAt A.in1 s x.2.2 p.2 true)
    (h : Q (.bool true) s) : wpAny (model prog w) A (compareOp .Eq (.ref a) (.ref b)) Q E s := by
  refine wpAny_richCompare_same_room (op := .Eq) da.typeIs db.typeIs PySem.F.slot_dict_eq (wpAny_call_entry PySem.F.slot_dict_eq da.typeIs PySem.F.entry_dict_eq ?_ (PySem.F.args_dict_eq_2 _ _)) hu
  show wpAny _ _ (Builtin.Dict.dictSlotArgs "__eq__" ⟨[.ref a, .ref b], []⟩ >>= _) _ _ s
  refine wpAny_bind ?_
  unfold Builtin.Dict.dictSlotArgs
  refine wpAny_bind (wpAny_notOrdered_dict da.typeIs ?_)
  show wpAny _ _ (pure (Value.ref a, Value.ref b)) _ _ s
  refine wpAny_pure ?_
  refine wpAny_bind (wpAny_isInstance (T := "dict") db.typeIs PySem.F.sub_dict_dict ?_)
  simp only [Bool.not_true, Bool.false_eq_true, if_false]
  refine wpAny_bind (wpAny_pure (wpAny_bind (wpAny_pure ?_)))
  refine wpAny_bind (samePairsH ha hb hr da db hl hits ?_)
  refine wpAny_pure ⟨_, rfl, ?_, ?_⟩
  · exact fun x => nomatch x
  · simpa using h
theorem neH {neg : Bool} {a b : Addr} {xa xb : List (K × Addr × Value)} {Q : Value → Shared → Prop} (ha : (a == sysModules) = false) (hb : (b == sysModules) = false) (hu : A.units < cLine) (hr : knd.room A.in1)
    (da : s.heap.DictOfH knd a xa) (db : s.heap.DictOfH knd b xb) (hl : xa.length = xb.length)
    (hits : ∀ (i : Nat) (x : K × Addr × Value), xa[i]? = some x → ∃ (j : Nat) (p : Addr × Value), xb[j]? = some (x.1, p) ∧ SeqAt.EqAt A.in1 s x.2.2 p.2 true)
    (h : Q (.bool false) s) : wpAny (model prog w) A (compareOp .NotEq (.ref a) (.ref b)) Q E s := by
  refine wpAny_richCompare_same_room (op := .NotEq) da.typeIs db.typeIs PySem.F.slot_dict_ne (wpAny_call_entry PySem.F.slot_dict_ne da.typeIs PySem.F.entry_dict_ne ?_ (PySem.F.args_dict_ne_2 _ _)) hu
  show wpAny _ _ (Builtin.Dict.dictSlotArgs "__ne__" ⟨[.ref a, .ref b], []⟩ >>= _) _ _ s
  refine wpAny_bind ?_
  unfold Builtin.Dict.dictSlotArgs
  refine wpAny_bind (wpAny_notOrdered_dict da.typeIs ?_)
  show wpAny _ _ (pure (Value.ref a, Value.ref b)) _ _ s
  refine wpAny_pure ?_
  refine wpAny_bind (wpAny_isInstance (T := "dict") db.typeIs PySem.F.sub_dict_dict ?_)
  simp only [Bool.not_true, Bool.false_eq_true, if_false]
  refine wpAny_bind (wpAny_pure (wpAny_bind (wpAny_pure ?_)))
  refine wpAny_bind (samePairsH ha hb hr da db hl hits ?_)
  refine wpAny_pure ⟨_, rfl, ?_, ?_⟩
  · exact fun x => nomatch x
  · simpa using h
end
theorem pget1 {α β : Type} {F : α → β → Prop} : ∀ {l₁ : List α} {l₂ : List β} {j : Nat} {x : α}, Paired F l₁ l₂ → l₁[j]? = some x → ∃ y, l₂[j]? = some y ∧ F x y
  | _, _, _, _, .nil, h => by simp at h
  | _, _, 0, _, .cons r _, h => by
    simp at h
    exact ⟨_, rfl, by rw [← h]; exact r⟩
  | _, _, j + 1, x, .cons _ t, h => by
    obtain ⟨y, h1, h2⟩ := pget1 (j := j) (x := x) t (by simpa using h)
    exact ⟨y, by simpa using h1, h2⟩
theorem pget2 {α β : Type} {F : α → β → Prop} : ∀ {l₁ : List α} {l₂ : List β} {j : Nat} {x : β}, Paired F l₁ l₂ → l₂[j]? = some x → ∃ y, l₁[j]? = some y ∧ F y x
  | _, _, _, _, .nil, h => by simp at h
  | _, _, 0, _, .cons r _, h => by
    simp at h
    exact ⟨_, rfl, by rw [← h]; exact r⟩
  | _, _, j + 1, x, .cons _ t, h => by
    obtain ⟨y, h1, h2⟩ := pget2 (j := j) (x := x) t (by simpa using h)
    exact ⟨y, by simpa using h1, h2⟩
section
variable {X : Cx}
def rEqT (b : Bool) : R2 := fun x y H Q => ∃ (p q : Addr) (ks ls : DK), x = .ref p ∧ y = .ref q ∧ H p = some (.dT (dKV ks)) ∧ H q = some (.dT (dKV ls)) ∧ ks.length = ls.length ∧ (∀ z ∈ ks, z ∈ ls) ∧ Q (.bl b) H
theorem hitsT {A : Around} {s : Shared} {H H' : Hp} {ks ls : DK} {xa xb : List (List L2.Key × Addr × Value)} (ra : KT H (dKV ks) xa) (rb : KT H' (dKV ls) xb) (hs : ∀ z ∈ ks, z ∈ ls) :
    ∀ (i : Nat) (x : List L2.Key × Addr × Value), xa[i]? = some x → ∃ (j : Nat) (p : Addr × Value), xb[j]? = some (x.1, p) ∧ SeqAt.EqAt A s x.2.2 p.2 true := by
  intro i x hx
  obtain ⟨y, h1, h2⟩ := pget2 ra hx
  rw [List.getElem?_map] at h1
  obtain ⟨z, hz, rfl⟩ := Option.map_eq_some_iff.mp h1
  obtain ⟨j, hj⟩ := List.getElem?_of_mem (hs z (List.mem_of_getElem? hz))
  obtain ⟨u, hu, h3⟩ := pget1 rb (j := j) (x := (z.1.map Sum.inl, V.int z.2)) (by rw [List.getElem?_map, hj]; rfl)
  refine ⟨j, u.2, ?_, ?_⟩
  · rw [hu, ← h2.1, h3.1]
  · obtain ⟨t, e1⟩ := (show ∃ t, x.2.2 = Value.int z.2 t from h2.2.2)
    obtain ⟨t', e2⟩ := (show ∃ t, u.2.2 = Value.int z.2 t from h3.2.2)
    rw [e1, e2]
    have := SeqAt.EqAt.int_int (A := A) (s := s) z.2 t z.2 t'
    rw [beq_self_eq_true] at this
    exact this
theorem op_eqT (hu : X.A.units + 1 < cLine) : OpR X (compareOp .Eq) (rEqT true) := by
  intro pins s σ H x y v u Q I rx ry h
  obtain ⟨a, b, ks, ls, rfl, rfl, ea, eb, hlen, hp, q⟩ := h
  obtain rfl : v = Value.ref a := rx
  obtain rfl : u = Value.ref b := ry
  obtain ⟨_, ya, xa, ra, da⟩ := dt_of I.hok ea
  obtain ⟨_, yb, xb, rb, db⟩ := dt_of I.hok eb
  have hl : xa.length = xb.length := by rw [← ra.length, ← rb.length, List.length_map, List.length_map]; exact hlen
  exact eqH (neg := true) ya yb (by omega) (tupleKind_room_in1 hu) da db hl (hitsT ra rb hp) ⟨.bl true, H, I, rfl, q⟩
theorem op_neT (hu : X.A.units + 1 < cLine) : OpR X (compareOp .NotEq) (rEqT false) := by
  intro pins s σ H x y v u Q I rx ry h
  obtain ⟨a, b, ks, ls, rfl, rfl, ea, eb, hlen, hp, q⟩ := h
  obtain rfl : v = Value.ref a := rx
  obtain rfl : u = Value.ref b := ry
  obtain ⟨_, ya, xa, ra, da⟩ := dt_of I.hok ea
  obtain ⟨_, yb, xb, rb, db⟩ := dt_of I.hok eb
  have hl : xa.length = xb.length := by rw [← ra.length, ← rb.length, List.length_map, List.length_map]; exact hlen
  exact neH (neg := true) ya yb (by omega) (tupleKind_room_in1 hu) da db hl (hitsT ra rb hp) ⟨.bl false, H, I, rfl, q⟩
end
def asDKs : List (D × D) → Option DK
  | [] => some []
  | (.tuple ks, .int n) :: r => match asInts ks, asDKs r with
    | some k, some kvs => some ((k, n) :: kvs)
    | _, _ => none
  | _ => none
def asDK : D → Option DK
  | .dict ps => asDKs ps
  | _ => none
theorem asDKs_of : ∀ kvs : DK, asDKs (kvs.map fun p => (.tuple (p.1.map .int), .int p.2)) = some kvs
  | [] => rfl
  | p :: r => by
    rw [List.map_cons, asDKs, asInts_map, asDKs_of r]
theorem asDK_of (kvs : DK) : asDK (dicD kvs) = some kvs := asDKs_of kvs
theorem Rep.dic {c : Ctx} {F : Hp} {v : V} {d : D} {kvs : DK} (h : Rep c F v d) (e : asDK d = some kvs) : ∃ a, v = .ref a ∧ F a = some (.dT (dKV kvs)) := by
  rcases h with h | ⟨⟨_, h⟩ | h, _⟩
  · cases d with
    | dict ps => cases h
    | _ => cases e
  · rw [h] at e; cases e
  · cases h with
    | dic kvs' h =>
      rw [asDK_of] at e
      cases e
      exact ⟨_, rfl, h⟩
    | rng lo hi h => cases e
def opEqD (b : Bool) (x y : D) (g : G) : Out D := match asDK x, asDK y with
  | some ks, some ls => if ks.length = ls.length ∧ ∀ z ∈ ks, z ∈ ls then .ok (.bool b) g else .bad
  | _, _ => .bad
section
variable {X : Cx} {c : Ctx} {W : WX} {pos : Pos} {a b : Expr} {fa fb : EF}
theorem k_eqD {k : Bool} : Keeps2 c W (rEqT k) (opEqD k) := by
  intro σ ρ g F H x y dx dy Q s rx ry h
  unfold opEqD at h
  split at h
  · rename_i ks ls e1 e2
    obtain ⟨⟨h1, h2⟩, h⟩ := h.ite
    obtain ⟨p, rfl, hp⟩ := rx.dic e1
    obtain ⟨q, rfl, hq⟩ := ry.dic e2
    exact ⟨p, q, ks, ls, rfl, rfl, s.fh _ _ hp, s.fh _ _ hq, h1, h2, h.now s rBl⟩
  · exact h.elim
theorem d_eqD (hu : X.A.units + 65 < cLine) (ha : DE X c W a fa) (hb : DE X c W b fb) : DC X c W (.Compare a [.Eq] [b] pos) (eBin (opEqD true) fa fb) := d_cmp (op_eqT (by omega)) k_eqD ha hb (nomark _)
theorem d_neD (hu : X.A.units + 65 < cLine) (ha : DE X c W a fa) (hb : DE X c W b fb) : DC X c W (.Compare a [.NotEq] [b] pos) (eBin (opEqD false) fa fb) := d_cmp (op_neT (by omega)) k_eqD ha hb (nomark _)
end
theorem SR.odc {c : Ctx} {F H : Hp} {σ : L2.St} {ρ : RS} {g : G} (s : SR c F H σ ρ g) {i : Nat} {kvs : DK} (h : ρ[i]? = some (.odc kvs)) : ∃ a, σ[i]? = some (some (.ref a)) ∧ H a = some (.dT (dKV kvs)) ∧ F a = none ∧ c.H0 a = none := s.slots i _ h
def noOdc : RS → Bool
  | [] => true
  | .odc _ :: _ => false
  | _ :: r => noOdc r
theorem noOdc_get : ∀ {ρ : RS} {i : Nat} {kvs : DK}, noOdc ρ = true → ρ[i]? ≠ some (.odc kvs)
  | [], _, _, _, h => by simp at h
  | .odc _ :: _, _, _, h, _ => by cases h
  | .un :: r, 0, _, _, h => by simp at h
  | .d _ :: r, 0, _, _, h => by simp at h
  | .own _ :: r, 0, _, _, h => by simp at h
  | .ex _ :: r, 0, _, _, h => by simp at h
  | .ods _ :: r, 0, _, _, h => by simp at h
  | .un :: r, i + 1, _, h, e => noOdc_get (ρ := r) (i := i) h (by simpa using e)
  | .d _ :: r, i + 1, _, h, e => noOdc_get (ρ := r) (i := i) h (by simpa using e)
  | .own _ :: r, i + 1, _, h, e => noOdc_get (ρ := r) (i := i) h (by simpa using e)
  | .ex _ :: r, i + 1, _, h, e => noOdc_get (ρ := r) (i := i) h (by simpa using e)
  | .ods _ :: r, i + 1, _, h, e => noOdc_get (ρ := r) (i := i) h (by simpa using e)
def sole (ρ : RS) (i : Nat) : Bool := noOdc (ρ.set i .un)
theorem sole_get {ρ : RS} {i j : Nat} {kvs : DK} (h : sole ρ i = true) (n : i ≠ j) : ρ[j]? ≠ some (.odc kvs) := by
  have := noOdc_get (i := j) (kvs := kvs) h
  rw [List.getElem?_set_ne n] at this
  exact this
theorem SR.updD {c : Ctx} {F H : Hp} {σ : L2.St} {ρ : RS} {g : G} (s : SR c F H σ ρ g) {i : Nat} {a : Addr} {kvs kvs' : DK} (h : ρ[i]? = some (.odc kvs)) (e : σ[i]? = some (some (.ref a))) (h1 : H a = some (.dT (dKV kvs))) (h2 : F a = none) (h3 : c.H0 a = none) (hs : sole ρ i = true) : SR c F (upd H a (.dT (dKV kvs'))) σ (ρ.set i (.odc kvs')) g where
  ext := {
    f := s.ext.f
    fh := fun p o q => by
      rw [upd_ne (ne_of_none q h2)]
      exact s.ext.fh p o q
    keep := fun p o q n m => by
      rw [upd_ne (ne_of_none q h3)]
      exact s.ext.keep p o q n m
    dom := fun p o q => by
      rw [upd_ne (ne_of_none q h3)]
      exact s.ext.dom p o q
    ff := s.ext.ff }
  gok := by
    obtain ⟨n1, n2⟩ := s.ownNe h3
    exact s.gok.ext rfl rfl (upd_ne n1.symm) (upd_ne n2.symm)
  g0 := s.g0
  len := by rw [List.length_set, s.len]
  slots := fun j y k => by
    by_cases hj : i = j
    · subst hj
      have hi : i < ρ.length := (List.getElem?_eq_some_iff.mp h).1
      rw [List.getElem?_set_self hi] at k
      cases k
      exact ⟨a, e, upd_same, h2, h3⟩
    · rw [List.getElem?_set_ne hj] at k
      have q := s.slots j y k
      cases y with
      | un => trivial
      | d x => exact q
      | own ys =>
        obtain ⟨b, ws, q1, q2, q3, q4, q5⟩ := q
        refine ⟨b, ws, q1, ?_, q3, q4, q5⟩
        rw [upd_ne fun z => by rw [z, h1] at q2; cases q2]
        exact q2
      | ex fs =>
        obtain ⟨ws, q1, q2, q3⟩ := q
        refine ⟨ws, q1, ?_, q3⟩
        rw [upd_ne fun z => by rw [z, h1] at q2; cases q2]
        exact q2
      | ods ks =>
        obtain ⟨b, L, q1, q2, q3, q4, q5, q6⟩ := q
        refine ⟨b, L, q1, ?_, q3, q4, q5, q6⟩
        rw [upd_ne fun z => by rw [z, h1] at q2; cases q2]
        exact q2
      | odc kk => exact absurd k (sole_get hs hj)
  sep := fun j k xs1 ys b k1 k2 k3 k4 => by
    obtain ⟨_, k1⟩ := set_own (fun _ e => by cases e) k1
    obtain ⟨_, k2⟩ := set_own (fun _ e => by cases e) k2
    exact s.sep j k xs1 ys b k1 k2 k3 k4
theorem SR.freezeD {c : Ctx} {F H : Hp} {σ : L2.St} {ρ : RS} {g : G} (s : SR c F H σ ρ g) {i : Nat} {a : Addr} {kvs : DK} (h : ρ[i]? = some (.odc kvs)) (e : σ[i]? = some (some (.ref a))) (h1 : H a = some (.dT (dKV kvs))) (h2 : F a = none) (h3 : c.H0 a = none) (hs : sole ρ i = true) : SR c (upd F a (.dT (dKV kvs))) H σ (ρ.set i (.d (dicD kvs))) g := by
  have sm : Same F (upd F a (.dT (dKV kvs))) := fun b o q => by rw [upd_ne (ne_of_none q h2)]; exact q
  obtain ⟨n1, n2⟩ := s.ownNe h3
  refine { ext := ?_, gok := s.gok.ext (upd_ne n1.symm) (upd_ne n2.symm) rfl rfl, g0 := s.g0, len := by rw [List.length_set, s.len], slots := fun j y k => ?_, sep := fun j k xs1 ys b k1 k2 k3 k4 => ?_ }
  · refine ⟨s.ext.f.trans sm, fun b o q => ?_, s.ext.keep, s.ext.dom, fun b o q => ?_⟩
    · by_cases hb : b = a
      · subst hb; rw [upd_same] at q; cases q; exact h1
      · rw [upd_ne hb] at q; exact s.ext.fh b o q
    · rw [upd_ne (ne_of_none q h3)]; exact s.ext.ff b o q
  · by_cases hj : i = j
    · subst hj
      have hi : i < ρ.length := (List.getElem?_eq_some_iff.mp h).1
      rw [List.getElem?_set_self hi] at k
      cases k
      exact ⟨.ref a, e, repDic upd_same⟩
    · rw [List.getElem?_set_ne hj] at k
      have q := s.slots j y k
      cases y with
      | un => trivial
      | d x =>
        obtain ⟨v, q1, q2⟩ := q
        exact ⟨v, q1, q2.mono sm⟩
      | own ys =>
        obtain ⟨b, ws, q1, q2, q3, q4, q5⟩ := q
        refine ⟨b, ws, q1, q2, RqAll_mono sm _ _ q3, ?_, q5⟩
        rw [upd_ne fun z => by rw [z, h1] at q2; cases q2]
        exact q4
      | ex fs =>
        obtain ⟨ws, q1, q2, q3⟩ := q
        exact ⟨ws, q1, q2, q3.mono sm⟩
      | ods ks =>
        obtain ⟨b, L, q1, q2, q3, q4, q5, q6⟩ := q
        refine ⟨b, L, q1, q2, q3, fun x hx => seqT_mono sm (q4 x hx), ?_, q6⟩
        rw [upd_ne fun z => by rw [z, h1] at q2; cases q2]
        exact q5
      | odc kk => exact absurd k (sole_get hs hj)
  · obtain ⟨_, k1⟩ := set_own (fun _ e => by cases e) k1
    obtain ⟨_, k2⟩ := set_own (fun _ e => by cases e) k2
    exact s.sep j k xs1 ys b k1 k2 k3 k4
theorem SR.h0none {c : Ctx} {F H : Hp} {σ : L2.St} {ρ : RS} {g : G} (s : SR c F H σ ρ g) {p : Addr} (n : H p = none) : c.H0 p = none := by
  cases z : c.H0 p with
  | none => rfl
  | some o =>
    obtain ⟨o', z'⟩ := s.ext.dom p o z
    rw [n] at z'
    cases z'
def putD (kvs : DK) (k : List Int) (n : Int) : DK := if (kvs.any fun p => decide (p.1 = k)) = true then kvs.map (fun p => if p.1 = k then (p.1, n) else p) else kvs ++ [(k, n)]
theorem inl_inj {a b : List Int} : a.map (Sum.inl : Int → L2.Key) = b.map Sum.inl ↔ a = b :=
  ⟨fun h => (List.map_inj_right fun x y e => Sum.inl.inj e).mp h, fun h => by rw [h]⟩
theorem dKV_put (kvs : DK) (k : List Int) (n : Int) : dKV (putD kvs k n) = putK (dKV kvs) (k.map Sum.inl) (.int n) := by
  have e1 : ((dKV kvs).any fun kv => decide (kv.1 = k.map Sum.inl)) = (kvs.any fun p => decide (p.1 = k)) := by
    induction kvs with
    | nil => rfl
    | cons p r ih =>
      simp only [dKV, List.map_cons, List.any_cons] at ih ⊢
      rw [ih]
      congr 1
      exact decide_eq_decide.mpr inl_inj
  unfold putD putK
  rw [e1]
  split
  · simp only [dKV, List.map_map]
    refine List.map_congr_left fun p _ => ?_
    by_cases h : p.1 = k
    · simp [h]
    · have h' : ¬ p.1.map (Sum.inl : Int → L2.Key) = k.map Sum.inl := fun z => h (inl_inj.mp z)
      simp [h, h']
  · simp [dKV]
section
variable {X : Cx} {c : Ctx} {W : WX} {pos : Pos} {e : Expr} {es : List Expr} {st : Stmt} {sts : List Stmt} {fs : AF} {fe : EF} {f : SF}
theorem hu1 {A : Around} {k : Nat} (hr : Room k A) : A.units + 1 < cLine := by have := hr.un; omega
def sNewD (i : Nat) : SF := fun ρ g => .nx (ρ.set i (.odc [])) g
theorem ds_newD {i : Nat} (h : PS X st (tAsg tDNewT (gName i))) : DS X c W st (sNewD i) := PS.imp h fun E σ H ⟨F, ρ, g, s, h⟩ => fun p n =>
  h _ F _ (Same.refl F) ((s.newM n).setDic (kvs := []) upd_same (s.fnone n) (s.h0none n) i)
def vOwnD (fs : AF) : VF := fun ρ g => (fs ρ g).bind fun ds g1 => .ok (.odc [] :: ds.map .d) g1
theorem dv_ownD (ha : PE X e tDNewT) (hr : DA X c W es fs) (hs : starEach (e :: es) X.env = (false, eval e X.env) :: starEach es X.env := by rfl) : DVs X c W (e :: es) (vOwnD fs) :=
  PA.imp (pa_cons ha hr hs) fun σ H Q ⟨F, ρ, g, s, h⟩ => fun p n => by
    have e1 : Ext c.sa c.sb F H F (upd H p (.dT [])) := Ext.newM s.fh n
    have s1 := s.newM (o := .dT []) n
    refine ⟨F, ρ, g, s1, ?_⟩
    unfold vOwnD at h
    cases q2 : fs ρ g with
    | bad => simp only [q2, Out.bind] at h; exact h.elim
    | exc n fs g2 => simp only [q2, Out.bind] at h; exact fun C dx vs F2 H2 e2 gk hc hd hf => h C dx vs F2 H2 (e1.trans e2) gk hc hd hf
    | ok ds g2 =>
      simp only [q2, Out.bind] at h
      intro vs F2 H2 e2 gk r2
      have na : p ≠ c.sa := (ne_of_none s.gok.ha n).symm
      have nb : p ≠ c.sb := (ne_of_none s.gok.hb n).symm
      exact h (.ref p :: vs) F2 H2 (e1.trans e2) gk (.od (kvs := []) (e2.keep p _ upd_same na nb) (by rw [e2.ff p _ upd_same]; exact s.fnone n) n r2)
def sPutD (i : Nat) (fs : AF) (fe : EF) : SF := fun ρ g => match ρ[i]? with
  | some (.odc kvs) => (fe ρ g).go ρ fun d g1 => (fs ρ g1).go ρ fun ks g2 => match d, asInts ks with
    | .int n, some k => if kvs.length < LIM ∧ k.length < LIM ∧ sole ρ i = true then .nx (ρ.set i (.odc (putD kvs k n))) g2 else .bad
    | _, _ => .bad
  | _ => .bad
theorem repInts {c : Ctx} {F : Hp} : ∀ {vs : List V} {ns : List Int}, RepAll c F vs (ns.map .int) → vs = ns.map .int
  | _, [], h => by cases h; rfl
  | _, n :: ns, h => by
    cases h with
    | cons h t => cases h.int; rw [repInts t]; rfl
theorem ds_putD {i : Nat} (h : PS X st (sDPut (tVar i) (tTup (tAr c W fs)) (tE c W fe))) : DS X c W st (sPutD i fs fe) := PS.imp h fun E σ H ⟨F, ρ, g, s, h⟩ => by
  unfold sPutD at h
  split at h
  · rename_i kvs hi
    refine ⟨F, ρ, g, s, go_post s h fun x g1 v F1 H1 e1 s1 r1 h1 => ?_⟩
    obtain ⟨a, k1, _⟩ := s1.odc hi
    refine ⟨.ref a, k1, F1, ρ, g1, s1, go_post s1 h1 fun ks g2 vs F2 H2 e2 s2 r2 h2 => ?_⟩
    split at h2
    · rename_i n k ek
      obtain ⟨⟨l1, l2, hs⟩, h2⟩ := h2.ite
      rw [asInts_of ek] at r2
      cases repInts r2
      cases r1.int
      refine ⟨lim_ok (by rw [List.length_map]; exact Nat.le_of_lt l2), fun p np => ?_⟩
      obtain ⟨a', m1, m2, m3, m4⟩ := s2.odc hi
      rw [k1] at m1
      cases m1
      have s3 := s2.new (o := .tup (k.map .int)) np
      have m2' : upd H2 p (.tup (k.map .int)) a = some (.dT (dKV kvs)) := by rw [upd_ne (ne_of_none m2 np)]; exact m2
      have m3' : upd F2 p (.tup (k.map .int)) a = none := by rw [upd_ne (ne_of_none m2 np)]; exact m3
      have s4 := s3.updD (kvs' := putD kvs k n) hi k1 m2' m3' m4 hs
      refine ⟨a, _, rfl, DPut.t (k := k.map Sum.inl) m2' (by rw [upd_same, List.map_map]; rfl) (by rw [List.length_map]; exact lim_lt l1), ?_⟩
      rw [← dKV_put]
      exact h2 σ _ _ (s2.same np) s4
    · exact h2.elim
  · exact h.elim
def sFrzD (i : Nat) (f : SF) : SF := fun ρ g => match ρ[i]? with
  | some (.odc kvs) => if sole ρ i = true then f (ρ.set i (.d (dicD kvs))) g else .bad
  | _ => f ρ g
theorem dss_frzD {i : Nat} (h : DSs X c W sts f) : DSs X c W sts (sFrzD i f) := PSs.imp h fun E σ H ⟨F, ρ, g, s, h⟩ => by
  unfold sFrzD at h
  split at h
  · rename_i kvs hi
    obtain ⟨hs, h⟩ := h.ite
    obtain ⟨a, k1, k2, k4, k5⟩ := s.odc hi
    exact ⟨_, _, g, s.freezeD hi k1 k2 k4 k5 hs, SPost.up h fun b o q => by rw [upd_ne (ne_of_none q k4)]; exact q⟩
  · exact ⟨F, ρ, g, s, h⟩
end
section
variable {prog : Program} {w : World} {K : Type} [DecidableEq K] {knd : HeapKind prog w K} {A : Around} {E : Value → Shared → Prop} {s : Shared}
theorem dict_pairsX {env : Env} {keys : List (Option Expr)} {values : List Expr} {pos : Pos} {pairs : List (Sem Value × Sem Value)} {Q : Value → Shared → Prop} (hu : knd.room A)
    (hshape : (evalEachOpt keys env).zip ((evalEach values env).map fun v => do let x ← v; standAt pos; pure x) = pairs.map fun p => (some p.1, p.2)) (h0 : pairs ≠ []) (hlen : pairs.length ≤ 15)
    (h : wpAny (model prog w) A (evalPairs pairs) (fun vs s₁ => ∃ ps, CarriesH knd s₁.heap vs ps ∧ s₁.heap.DictOfH knd s.heap.objs.size [] ∧
      ∀ h' tk, h'.DictOfH knd s.heap.objs.size (storedAllH [] ps) → Heap.SameBut s.heap.objs.size s₁.heap h' → Q (.ref s.heap.objs.size) { s₁ with heap := h', toks := tk }) E
      { s with heap := s.heap.push { cls := .type "dict", data := .dict #[] } }) :
    wpAny (model prog w) A (eval (.Dict keys values pos) env) Q E s := by
  rw [arm_eval_Dict, hshape, dictDisplay_pairs pairs h0 (by omega)]
  exact wpAny_bind (wpAny_standAt (wpAny_bind (wpAny_subDictH (knd := knd) (Q := fun d s' => wpAny (model prog w) A (pure (Value.ref d)) Q E s') hu hlen
    (wpAny_mono h (fun vs s₁ h₁ => by obtain ⟨ps, hc, hm, hq⟩ := h₁; exact ⟨ps, hc, hm, fun h' tk a b => wpAny_pure (hq h' tk a b)⟩) fun _ _ e => e))))
end
def mergeD (acc : DK) (kvs : DK) : DK := kvs.foldl (fun acc p => putD acc p.1 p.2) acc
theorem length_mergeD : ∀ (kvs acc : DK), (mergeD acc kvs).length ≤ acc.length + kvs.length
  | [], acc => Nat.le_refl _
  | p :: r, acc => by
    have h1 := length_mergeD r (putD acc p.1 p.2)
    have h2 : (putD acc p.1 p.2).length ≤ acc.length + 1 := by
      unfold putD
      split
      · rw [List.length_map]; omega
      · rw [List.length_append, List.length_cons, List.length_nil]; omega
    show (mergeD (putD acc p.1 p.2) r).length ≤ _
    rw [List.length_cons]; omega
abbrev RPp (H : Hp) : List (V × V) → DK → Prop := Paired fun (p : V × V) (q : List Int × Int) => ∃ a, p.1 = .ref a ∧ H a = some (.tup (q.1.map .int)) ∧ p.2 = .int q.2
theorem carriesT {P : Program} {w : World} {H : Hp} {h : Heap} (ok : HOk P w H h) : ∀ {ps : List (V × V)} {kvs : DK} {ws : List (Value × Value)}, RPp H ps kvs → VV ps ws →
    ∃ rs : List (List L2.Key × Addr × Value), CarriesH (tupleKind (mixKind P w)) h ws rs ∧ KT H (dKV kvs) rs
  | _, _, _, .nil, r => by cases r; exact ⟨[], True.intro, .nil⟩
  | _, _, _, .cons (a := p) (b := q) ⟨a, e1, e2, e3⟩ t, r => by
    cases r with
    | @cons _ b as bs h1 t1 =>
      obtain ⟨rs, c, k⟩ := carriesT ok t t1
      obtain ⟨b1, b2⟩ := b
      rw [e1, e3] at h1
      obtain rfl : b1 = Value.ref a := h1.1
      have e2' : H a = some (.tup ((q.1.map Sum.inl : List L2.Key).map kV)) := by rw [e2, List.map_map]; rfl
      exact ⟨(q.1.map Sum.inl, a, b2) :: rs, ⟨rfl, rfl, key_of ok e2', c⟩, .cons ⟨rfl, e2', h1.2⟩ k⟩
theorem KT_merge {H : Hp} : ∀ {kvs : DK} {rs : List (List L2.Key × Addr × Value)} {acc : DK} {xs : List (List L2.Key × Addr × Value)}, KT H (dKV kvs) rs → KT H (dKV acc) xs → KT H (dKV (mergeD acc kvs)) (storedAllH xs rs)
  | [], _, _, _, .nil, q => q
  | p :: kvs, _, acc, xs, .cons (b := r) h t, q => by
    obtain ⟨r1, r2, r3⟩ := r
    obtain ⟨h1, h2, h3⟩ := h
    cases h1
    have e := q.put (p.1.map Sum.inl) h2 h3
    rw [← dKV_put] at e
    exact (show KT H (dKV (mergeD (putD acc p.1 p.2) kvs)) (storedAllH (storedH xs (p.1.map Sum.inl) r2 r3) _) from KT_merge (acc := putD acc p.1 p.2) (xs := storedH xs (p.1.map Sum.inl) r2 r3) t e)
def tDispT (tp : L2.St → Hp → (List (V × V) → Hp → Prop) → Prop) : TE := fun σ H Q => ∀ p, H p = none → tp σ (upd H p (.dT [])) fun ps H2 => H2 p = some (.dT []) ∧ ∃ kvs : DK, RPp H2 ps kvs ∧ kvs.length ≤ 15 ∧ Q (.ref p) (upd H2 p (.dT (dKV (mergeD [] kvs))))
theorem pe_dispT {X : Cx} {pos : Pos} {keys : List (Option Expr)} {values : List Expr} {trs : List (TE × TE)} (hu : X.A.units < cLine) (h : PPs X pos keys values trs) (hall : keys.all (·.isSome) = true) (hl : keys.length = values.length) (h0 : keys ≠ [])
    (h15 : keys.length ≤ 15) : PE X (.Dict keys values pos) (tDispT (tPairs trs)) := by
  refine ⟨fun pins s σ H Q I q => ?_⟩
  have hn := I.hok.fresh (Nat.le_refl s.heap.objs.size)
  have I1 := I.laid (a := s.heap.objs.size) (o := .dT []) (h' := s.heap.push { cls := .type "dict", data := .dict #[] }) (t' := s.toks) (fun _ _ q => Heap.get?_push_of_some _ q) (Nat.le_refl _) (dt_empty s.heap I.big)
  have hpn := pairTrees_length keys values X.env pos hall hl
  refine dict_pairsX (knd := tupleKind (mixKind X.prog X.w)) (pairs := pairTrees keys values X.env pos) hu (zip_pairTrees keys values X.env pos hall hl) (fun he => ?_) (by rw [hpn]; exact h15)
    (thn (h.run pins _ σ _ _ I1 (q _ hn)) fun ws s2 ⟨ps, H2, I2, rel, e, kvs, rp, lk, q2⟩ => ?_)
  · rw [he] at hpn
    exact h0 (List.length_eq_zero_iff.mp hpn.symm)
  obtain ⟨rs, c, rk⟩ := carriesT I2.hok rp rel
  obtain ⟨z, hd, xs0, r0, dd⟩ := dt_of I2.hok e
  cases r0
  refine ⟨rs, c, dd, fun h' tk dd' hs => ⟨.ref s.heap.objs.size, _, ?_, rfl, q2⟩⟩
  have hz : (dKV (mergeD [] kvs)).length ≤ sizeLine := by
    have h1 := length_mergeD kvs []
    rw [List.length_nil] at h1
    rw [List.length_map, sizeLine_eq]; omega
  obtain ⟨o, es, ep, ho, hc, hdd, hee, his, hnn⟩ := dd'
  have km : KT (upd H2 s.heap.objs.size (.dT (dKV (mergeD [] kvs)))) (dKV (mergeD [] kvs)) (storedAllH [] rs) := (KT_merge (acc := []) rk .nil).keeps fun b ys hb => by
    rw [upd_ne fun z => by rw [z, e] at hb; cases hb]
    exact hb
  exact d_write I2 (by rw [e]; exact True.intro) hs ⟨o, ho⟩ ⟨hz, hd, _, km, o, es, ep, ho, hc, hdd, hee, hnn⟩
abbrev PF := RS → G → Out DK
def pNil : PF := fun _ g => .ok [] g
def pCons (fa : AF) (fe : EF) (f : PF) : PF := fun ρ g => (fa ρ g).bind fun ks g1 => match asInts ks with
  | some k => if k.length ≤ LIM then (fe ρ g1).bind fun d g2 => match d with
    | .int n => (f ρ g2).bind fun kvs g3 => .ok ((k, n) :: kvs) g3
    | _ => .bad
    else .bad
  | none => .bad
def eDisp (f : PF) : EF := fun ρ g => (f ρ g).bind fun kvs g1 => if kvs.length ≤ 15 then .ok (dicD (mergeD [] kvs)) g1 else .bad
inductive PL (c : Ctx) (W : WX) : List (TE × TE) → PF → Prop
  | nil : PL c W [] pNil
  | cons {fa : AF} {fe : EF} {f : PF} {trs : List (TE × TE)} : PL c W trs f → PL c W ((tTup (tAr c W fa), tE c W fe) :: trs) (pCons fa fe f)
theorem RPp.mono {F F' : Hp} (e : Same F F') : ∀ {ps : List (V × V)} {kvs : DK}, RPp F ps kvs → RPp F' ps kvs := fun h => Paired.mapP h fun _ _ ⟨a, h1, h2, h3⟩ => ⟨a, h1, e _ _ h2, h3⟩
theorem pl_pairs {c : Ctx} {W : WX} {trs : List (TE × TE)} {f : PF} (h : PL c W trs f) : ∀ {σ : L2.St} {H : Hp} {Q : List (V × V) → Hp → Prop}, (∃ F ρ g, SR c F H σ ρ g ∧ PostG c σ (fun F ps kvs => RPp F ps kvs) (f ρ g) F H W Q) → tPairs trs σ H Q := by
  induction h with
  | nil => exact fun ⟨F, ρ, g, s, h⟩ => h.now s .nil
  | cons ht ih =>
    intro σ H Q ⟨F, ρ, g, s, h⟩
    refine ⟨F, ρ, g, s, PostG.bind s h fun ks g1 vs F1 H1 e1 s1 r1 h1 => ?_⟩
    split at h1
    · rename_i k ek
      obtain ⟨hl, h1⟩ := h1.ite
      rw [asInts_of ek] at r1
      cases repInts r1
      refine ⟨lim_ok (by rw [List.length_map]; exact hl), fun p np => ?_⟩
      have s2 := s1.new (o := .tup (k.map .int)) np
      refine ⟨_, ρ, g1, s2, PostG.bind s2 (h1.up (Ext.new s1.fh np)) fun d g2 v F3 H3 e3 s3 r3 h3 => ?_⟩
      split at h3
      · rename_i n
        cases r3.int
        refine ih ⟨F3, ρ, g2, s3, PostG.bind s3 h3 fun kvs g4 ps F4 H4 e4 s4 r4 h4 => ?_⟩
        exact h4.now s4 (.cons ⟨p, rfl, e4.f _ _ (e3.f _ _ upd_same), rfl⟩ r4)
      · exact h3.elim
    · exact h1.elim
theorem d_disp {X : Cx} {c : Ctx} {W : WX} {pos : Pos} {keys : List (Option Expr)} {values : List Expr} {trs : List (TE × TE)} {f : PF} (hu : X.A.units + 65 < cLine) (hp : PPs X pos keys values trs) (hf : PL c W trs f) (hall : keys.all (·.isSome) = true := by rfl) (hl : keys.length = values.length := by rfl) (h0 : keys ≠ [] := by simp)
    (h15 : keys.length ≤ 15 := by decide) : DE X c W (.Dict keys values pos) (eDisp f) := PE.imp (pe_dispT (by omega) hp hall hl h0 h15) fun σ H Q ⟨F, ρ, g, s, h⟩ => fun p np => by
  have e1 : Ext c.sa c.sb F H F (upd H p (.dT [])) := Ext.newM s.fh np
  have s1 := s.newM (o := .dT []) np
  refine pl_pairs hf ⟨F, ρ, g, s1, ?_⟩
  unfold eDisp at h
  cases q : f ρ g with
  | bad => simp only [q, Out.bind] at h; exact h.elim
  | exc n fs g1 => simp only [q, Out.bind] at h; exact fun C dx vs F2 H2 e2 gk hc hd hf => h C dx vs F2 H2 (e1.trans e2) gk hc hd hf
  | ok kvs g1 =>
    simp only [q, Out.bind] at h
    obtain ⟨h15', h⟩ := h.ite
    intro ps F2 H2 e2 gk rp
    have na : p ≠ c.sa := (ne_of_none s.gok.ha np).symm
    have nb : p ≠ c.sb := (ne_of_none s.gok.hb np).symm
    have hp2 : H2 p = some (.dT []) := e2.keep p _ upd_same na nb
    have fp2 : F2 p = none := by rw [e2.ff p _ upd_same]; exact s.fnone np
    have sm : Same F2 (upd F2 p (.dT (dKV (mergeD [] kvs)))) := fun b o z => by rw [upd_ne (ne_of_none z fp2)]; exact z
    refine ⟨hp2, kvs, RPp.mono e2.fh rp, h15', h (.ref p) (upd F2 p (.dT (dKV (mergeD [] kvs)))) _ ?_ (gk.ext (upd_ne na.symm) (upd_ne nb.symm) (upd_ne na.symm) (upd_ne nb.symm)) (repDic upd_same)⟩
    refine ⟨(e1.trans e2).f.trans sm, fun b o z => ?_, fun q o z n1 n2 => ?_, fun q o z => ?_, fun q o z => ?_⟩
    · by_cases hb : b = p
      · subst hb; rw [upd_same] at z ⊢; exact z
      · rw [upd_ne hb] at z ⊢; exact e2.fh b o z
    · rw [upd_ne (ne_of_none z np)]; exact (e1.trans e2).keep q o z n1 n2
    · rw [upd_ne (ne_of_none z np)]; exact (e1.trans e2).dom q o z
    · rw [upd_ne (ne_of_none z np)]; exact (e1.trans e2).ff q o z
theorem cr_range1 {X : Cx} : CallR X (.type "range") (fun vs H Q => ∃ j, vs = [V.int j] ∧ ∀ p, H p = none → Q (.ref p) (upd H p (.rng 0 j))) := by
  intro pins s σ H vs us Q I r h
  obtain ⟨j, rfl, q⟩ := h
  obtain ⟨u1, rfl, ri⟩ := vals1 r
  obtain ⟨t, rfl⟩ := ri
  refine call_range_1 ⟨.ref s.heap.objs.size, upd H s.heap.objs.size (.rng 0 j), I.laid (t' := s.toks + 1 + 1) (fun b o e => Heap.get?_push_of_some _ e) (Nat.le_refl _) ?_, rfl, q _ (I.hok.fresh (Nat.le_refl _))⟩
  exact ⟨s.toks, t, s.toks + 1, Heap.get?_push_size _ rfl⟩
def bRng (ds : List D) (g : G) : Out D := match ds with
  | [.int j] => .ok (rngD 0 j) g
  | _ => .bad
theorem kl_rng {c : Ctx} {W : WX} : KeepsL c W (fun vs H Q => ∃ j, vs = [V.int j] ∧ ∀ p, H p = none → Q (.ref p) (upd H p (.rng 0 j))) bRng := by
  intro σ ρ g F H vs ds Q s r h
  unfold bRng at h
  split at h
  · obtain ⟨v, rfl, rv⟩ := rep1 r
    cases rv.int
    exact ⟨_, rfl, fun p n => h _ _ _ (Ext.new s.fh n) (s.gok.new n) (repRng upd_same)⟩
  · exact h.elim
def asRng : D → Option (Int × Int)
  | .dict [(.none, .int lo), (.none, .int hi)] => some (lo, hi)
  | _ => none
theorem Rep.rng {c : Ctx} {F : Hp} {v : V} {d : D} {p : Int × Int} (h : Rep c F v d) (e : asRng d = some p) : ∃ a, v = .ref a ∧ F a = some (.rng p.1 p.2) := by
  rcases h with h | ⟨⟨_, h⟩ | h, _⟩
  · cases d with
    | dict ps => cases h
    | _ => cases e
  · rw [h] at e; cases e
  · cases h with
    | dic kvs h =>
      match kvs, e with
      | [], e => cases e
      | [_], e => cases e
      | _ :: _ :: _, e => cases e
    | rng lo hi h => cases e; exact ⟨_, rfl, h⟩
def iRngO (te : TE) : TI := fun σ H R => te σ H fun x H1 => ∃ a lo hi, x = .ref a ∧ H1 a = some (.rng lo hi) ∧ (-(2 ^ 62) ≤ lo ∧ lo < 2 ^ 62 ∧ -(2 ^ 62) ≤ hi ∧ hi < 2 ^ 62) ∧ R (Itr lo (hi - lo).toNat) H1
theorem pi_rngV {X : Cx} {tg e : Expr} {te : TE} (he : PE X e te) : PI X tg e (iRngO te) := by
  refine ⟨fun pins s σ H R I h => ?_⟩
  refine thn (he.run pins s σ H _ I h) fun v s1 ⟨x, H1, I1, r1, q1⟩ => ?_
  obtain ⟨a, lo, hi, e, ha, ⟨b1, b2, b3, b4⟩, q⟩ := q1
  subst e
  cases r1
  obtain ⟨t, u, v, ho⟩ := I1.hok a _ ha
  refine wpAny_pyIter_range (show IsRange s1.heap a lo hi 1 t u v from ho) (small_one b1 b2 b3 b4) ?_
  refine ⟨s1.heap.objs.size, [s1.heap.objs.size], _, _, H1, rfl, I1.kept (t' := s1.toks) fun b o e => Heap.get?_push_of_some _ e, turn_range _ lo (hi - lo).toNat, ?_, fun b hb => ?_, q⟩
  · have e1 : lo + ((0 : Nat) : Int) * 1 = lo := by simp
    have e2 : (((hi - lo).toNat : Nat) : Int) - ((0 : Nat) : Int) = Builtin.Range.rangeSize lo hi 1 := by rw [rangeSize_one]; split <;> omega
    show IsRangeIter _ _ (lo + ((0 : Nat) : Int) * 1) ((((hi - lo).toNat : Nat) : Int) - ((0 : Nat) : Int)) 1
    rw [e1, e2]
    exact Heap.get?_push_size _ rfl
  · have e : b = s1.heap.objs.size := by simpa using hb
    subst e
    exact I1.fpOk (Nat.le_refl _) (I1.hok.fresh (Nat.le_refl _))
def iRngV (fe : EF) : LF := fun ρ g => (fe ρ g).bind fun x g1 => match asRng x with
  | some p => if -(2 ^ 62) ≤ p.1 ∧ p.1 < 2 ^ 62 ∧ -(2 ^ 62) ≤ p.2 ∧ p.2 < 2 ^ 62 then .ok (upTo p.1 (p.2 - p.1).toNat) g1 else .bad
  | none => .bad
theorem di_rngV {X : Cx} {c : Ctx} {W : WX} {tg e : Expr} {fe : EF} (ha : DE X c W e fe) : DI X c W tg e (iRngV fe) := PI.imp (pi_rngV ha) fun σ H R ⟨F, ρ, g, s, h⟩ => ⟨F, ρ, g, s, PostG.bind s h fun x g1 v F1 H1 e1 s1 r1 h1 => by
  split at h1
  · rename_i p ep
    obtain ⟨hb, h1⟩ := h1.ite
    obtain ⟨a, rfl, ha⟩ := r1.rng ep
    exact ⟨a, p.1, p.2, rfl, s1.fh _ _ ha, hb, h1.now s1 iter_r⟩
  · exact h1.elim⟩
def bUnl (n : Nat) (bs : List D → RS → Option RS) : BF := fun x ρ => match x with
  | .list xs => if xs.length = n then bs xs ρ else none
  | _ => none
theorem dg_unl {X : Cx} {c : Ctx} {pos : Pos} {es : List Expr} {k n : Nat} {bs : List D → RS → Option RS} (hK : c.K = X.K) (hc : X.calm = true) {is : List Nat} (h : DGs X c is es bs) (hn : (assignEach es X.env).length = n := by rfl) (hst : (assignEach es X.env).findIdx? (·.1) = none := by rfl) : DG X c is (.Tuple es k pos) (bUnl n bs) :=
  PG.imp (pg_unl hc h hn hst) fun v σ H Q ⟨F, ρ, g, x, ρ', s, r, e, q⟩ => by
    cases x with
    | list xs =>
      obtain ⟨a, vs, rfl, h1, h2⟩ := r.list
      simp only [bUnl] at e
      split at e
      · rename_i hl
        exact ⟨a, vs, rfl, SqL.of (s.fh _ _ h1), by rw [h2.len]; exact hl, F, ρ, g, xs, ρ', s, h2, e, q⟩
      · cases e
    | _ => cases e
def eIndex (fo fe : EF) : EF := fun ρ g => (fo ρ g).bind fun x g1 => match x with
  | .list xs => (fe ρ g1).bind fun y g2 => match y, asInts xs with
    | .int n, some ns => match ns.findIdx? (fun m => m == n) with
      | some j => .ok (.int (j : Nat)) g2
      | none => .bad
    | _, _ => .bad
  | _ => .bad
theorem flat_ints (ns : List Int) : (ns.map V.int).all flatV = true := by
  induction ns with
  | nil => rfl
  | cons n ns ih => rw [List.map_cons, List.all_cons, ih]; rfl
theorem d_index {X : Cx} {c : Ctx} {W : WX} {e : Expr} {fo fe : EF} (hK : c.K = X.K) (h : PE X e (tBM X.K "list" (rIndex X.K) (tE c W fo) (tCons (tE c W fe) tNil))) : DE X c W e (eIndex fo fe) := PE.imp h fun σ H Q ⟨F, ρ, g, s, h⟩ => by
  refine ⟨F, ρ, g, s, PostG.bind s h fun x g1 v F1 H1 e1 s1 r1 h1 => ?_⟩
  cases x with
  | list xs =>
    obtain ⟨a, vs, rfl, q1, q2⟩ := r1.list
    refine ⟨.inl ⟨rfl, vs, SqL.of (s1.fh _ _ q1)⟩, F1, ρ, g1, s1, PostG.bind s1 h1 fun y g2 u F2 H2 e2 s2 r2 h2 => ?_⟩
    split at h2
    · rename_i n ns en
      split at h2
      · rename_i j hj
        cases r2.int
        have q3 := RqAll_mono e2.f _ _ q2
        rw [asInts_of en] at q3
        have q4 := RqAll.ints q3
        obtain ⟨hlt, h3, h4⟩ := List.findIdx?_eq_some_iff_getElem.mp hj
        refine ⟨a, vs, .int n, j, .int ns[j], rfl, rfl, SqL.of (s2.fh _ _ (e2.f _ _ q1)), rfl, by rw [q4]; exact flat_ints ns, by rw [q4, List.getElem?_map, List.getElem?_eq_getElem hlt]; rfl, h3, fun m z hm hz => ?_, h2.now s2 rInt⟩
        rw [q4, List.getElem?_map] at hz
        obtain ⟨k, hk, rfl⟩ := Option.map_eq_some_iff.mp hz
        have hml : m < ns.length := by omega
        rw [List.getElem?_eq_getElem hml] at hk
        cases hk
        have h5 := h4 m hm
        have h6 : ns[m] ≠ n := by simpa using h5
        simp [eqV, h6]
      · exact h2.elim
    · exact h2.elim
  | _ => exact h1.elim
end DL
namespace DL
open PySem
open PySem.Spec
open PyProof.Rows
open L2
def wAsM (K : PySem.W.Frag) (Wout : WX) (D : Ends) : List (Value × Nat × (Addr → Value → Option Addr → TS)) → WX
  | [] => Wout
  | (c, i, ts) :: r => wAs K c i ts (wAsM K Wout D r) D
inductive HdsAs (X : Cx) : List ExceptHandler → List (Value × Nat × (Addr → Value → Option Addr → TS)) → Prop
  | nil : HdsAs X [] []
  | cons {x n : Str} {c : Value} {i : Nat} {ts : Addr → Value → Option Addr → TS} {b₀ : Stmt} {suite : List Stmt} {np pos' : Pos} {hds : List ExceptHandler} {l : List (Value × Nat × (Addr → Value → Option Addr → TS))} (hi : X.N[i]? = some n) (hln : X.env.kindOf n = some .local) (hc : Names X x c)
      (hsu : ∀ (a : Addr) (oe : Obj) (cls : Value) (d : Option Addr) (pn : List (Addr × Obj)), Zc cls d oe → (∃ vs, oe.data = .fields vs) → PSs (X.suite a ((a, oe) :: pn)) (b₀ :: suite) (ts a cls d)) (r : HdsAs X hds l) :
      HdsAs X (.ExceptHandler (some (.Name x np)) (some n) (b₀ :: suite) pos' :: hds) ((c, i, ts) :: l)
section
variable {X : Cx} {body : List Stmt} {h₀ : ExceptHandler} {hds : List ExceptHandler} {l : List (Value × Nat × (Addr → Value → Option Addr → TS))} {pos : Pos} {tb : WX → TS} {Wout : WX}
theorem ps_try_asM (hs : X.stack = X.env :: X.outer) (hf : X.env.frame = some X.env.locals) (hN : X.N.Nodup) (tk : Takes X Wout)
    (hb : ∀ (W : WX) (pn : List (Addr × Obj)) (xe : Value → Shared → Prop), Takes (X.tr pn xe) W → PassesOwn (model X.prog X.w) X.A X.env xe → PSs (X.tr pn xe) body (tb W))
    (hh : HdsAs X (h₀ :: hds) l) : PS X (.Try body (h₀ :: hds) [] [] pos) (fun D σ H => tb (wAsM X.K Wout D l) D σ H) := by
  refine ⟨fun pins s σ H D I h => ?_⟩
  have ok := I.ok
  have hfr : X.A.frames = some (X.env :: X.outer) := by rw [ok.frames, hs]
  refine wpAny_Try_except ?_
  refine wpAny_mono ((hb (wAsM X.K Wout D l) (X.pn ++ pins) (fun e s₁ => wpAny (model X.prog X.w) X.A (noteFrame e X.env) (fun _ s₂ => wpAny (model X.prog X.w) X.A (setFlight e none) (fun _ s₃ =>
    wpAny (model X.prog X.w) X.A (handleBy e X.env (h₀ :: hds)) (SP X pins D) X.xe s₃) X.xe s₂) X.xe s₁) (fun u s' xx => ?_) PassesOwn.looking).run [] s σ H D (I.toTry _) h) (fun f s1 hsp => ?_) (fun e s1 he => he)
  · obtain ⟨a, B, sI, pins', σ', H', cls, d, rfl, J', nb, up, sky, na, os, ag, w⟩ := xx
    have J : Inv X pins σ' H' sI := J'.ofTry ok
    have sky' : Sky B (X.env :: X.outer) a (Zc cls d) X.env.locals s'.heap := by rw [← hs]; exact sky
    show wpAny (model X.prog X.w) X.A (noteFrame (.ref a) X.env) _ _ _
    refine Sky.land Zc.steady hfr hf sky' fun h3 fl3 up3 => ?_
    have J3 : Inv X pins σ' H' { s' with heap := h3 } := J.landed nb fl3.1 (up.trans up3) os ag
    obtain ⟨oe3, vs3, he3, hz3, hd3⟩ := fl3.there
    have notFr : ∀ {h : Heap} {o : Obj} {vs : Array Value}, h.FunFrames B (X.env :: X.outer) → h.get? a = some o → o.data = .fields vs → a ∉ frs (X.env :: X.outer) := fun {h o vs} ff e dd hm => by
      obtain ⟨_, o', e', hnf⟩ := ff.mem hm
      rw [e] at e'; cases e'
      exact hnf _ dd
    have nfr := notFr fl3.2.2.1 he3 hd3
    have nL : a ≠ X.env.locals := fun z => nfr (List.mem_filterMap.mpr ⟨X.env, List.mem_cons_self, by rw [hf, z]⟩)
    have nF : a ∉ X.fs := fun hm => by
      obtain ⟨e, he, q⟩ := List.mem_filterMap.mp hm
      exact nfr (List.mem_filterMap.mpr ⟨e, List.mem_cons_of_mem _ he, q⟩)
    have S3 := J3.suite he3 hd3 na nL nF
    have go : ∀ {hds' : List ExceptHandler} {l' : List (Value × Nat × (Addr → Value → Option Addr → TS))}, HdsAs X hds' l' → wAsM X.K Wout D l' cls d σ' H' →
        wpAny (model X.prog X.w) X.A (handleBy (.ref a) X.env hds') (SP X pins D) X.xe { s' with heap := h3 } := by
      intro hds' l' hk
      induction hk with
      | nil =>
        intro w
        refine wpAny_handleBy_nil ?_
        obtain ⟨k1, k2, k3, oe, vs, T, oT, ts', he, hz, hd, h1, hr⟩ := id fl3
        unfold PySem.passOn
        refine wpAny_bind (wpAny_field he hd h1 ?_)
        rw [if_neg (show ¬ ((Value.ref T == Value.none) = true) from by simp)]
        have fin : wpAny (model X.prog X.w) X.A (setFlight (.ref a) X.env.frame) (fun _ s4 => wpAny (model X.prog X.w) X.A (throw (.ref a) : Sem Flow) (SP X pins D) X.xe s4) X.xe { s' with heap := h3 } := by
          rw [hf]
          refine HandSPX.setFlight_upZ fl3 fun h4 hh4 up4 => wpAny_throw (tk _ _ ?_)
          exact ⟨a, B, sI, pins, σ', H', cls, d, rfl, J, nb, (up.trans up3).trans up4, .inr (.inr (by rw [hs]; exact hh4)), na, os, ag, w⟩
        first
          | exact wpAny_bind (wpAny_pure (wpAny_bind fin))
          | exact wpAny_bind fin
      | @cons x n c i ts b₀ suite np pos' hds2 l2 hi hln hc hsu r ih =>
        intro w
        have hloc : Loc X.env.scope n := .inl hln
        obtain ⟨b, hb1, hyes, hno⟩ := w
        refine wpAny_handleBy_cons (codeAny_handlers_test ?_) (by intro q; cases q)
        have LT : PySem.W.Looks (model X.prog X.w) h3 (typeOf (.ref a)) cls := fun A Q E s k q => wpAny_typeOf_ref (k _ _ he3) (by rw [hz3.1]; exact q)
        have LM := PySem.W.exm_one (M := model X.prog X.w) (J3.kIn) LT hb1
        have test : ∀ {Q : Value → Shared → Prop} {E : Value → Shared → Prop}, Q c { s' with heap := h3 } → wpAny (model X.prog X.w) (X.A.mark (some (.ref a))) (eval (.Name x np) X.env) Q E { s' with heap := h3 } := fun {Q E} q => by
          obtain ⟨hg, hdbg, hm | ⟨hm, hv, hnn⟩⟩ := hc
          · exact ld_glob (X := X.suite a ((a, oe3) :: (X.pn ++ pins))) S3 hg hm q hdbg
          · exact ld_blt (X := X.suite a ((a, oe3) :: (X.pn ++ pins))) S3 hg hm hv q hnn hdbg
        refine test (LM.here ?_)
        cases b with
        | true =>
          refine codeAny_handlers_suite_as ?_
          refine HandSPX.lands_againZ fl3 fun h4 fl4 up4 => ?_
          have J4 : Inv X pins σ' H' { s' with heap := h4 } := J.landed nb fl4.1 ((up.trans up3).trans up4) os ag
          obtain ⟨oe4, vs4, he4, hz4, hd4⟩ := fl4.there
          have S4 := J4.suite he4 hd4 na nL nF
          refine store_ok (X := X.suite a ((a, oe4) :: (X.pn ++ pins))) (v := .ref a) S4 hN hi hloc rfl (fun s5 S5 => ?_) (.inr hln)
          refine wpAny_mono ((hsu a oe4 cls d (X.pn ++ pins) hz4 ⟨_, hd4⟩).run [] s5 _ H' _ S5 (hyes rfl a na)) (fun f s6 hsp => ?_) (fun _ _ z => False.elim z)
          have end_ : ∀ {σ6 : L2.St} {H6 : Hp} {Q : Shared → Prop}, Inv (X.suite a ((a, oe4) :: (X.pn ++ pins))) [] σ6 H6 s6 → (∀ s7, Inv X pins (σ6.set i none) H6 s7 → Q s7) →
              wpAny (model X.prog X.w) X.A (do bindName X.env n .none; unbindBehindTheSuite X.env n pos') (fun _ s7 => Q s7) X.xe s6 := fun {σ6 H6 Q} S6 hq => gone_ok (S6.unsuite ok) hN hi hln hq
          cases f with
          | next =>
            obtain ⟨σ6, H6, S6, q6⟩ := hsp
            exact end_ S6 fun s7 J7 => ⟨_, _, J7, q6⟩
          | brk =>
            obtain ⟨σ6, H6, S6, q6⟩ := hsp
            exact end_ S6 fun s7 J7 => ⟨_, _, J7, q6⟩
          | cont =>
            obtain ⟨σ6, H6, S6, q6⟩ := hsp
            exact end_ S6 fun s7 J7 => ⟨_, _, J7, q6⟩
          | ret u =>
            obtain ⟨v6, σ6, H6, S6, r6, q6⟩ := hsp
            exact end_ S6 fun s7 J7 => ⟨_, _, _, J7, r6, q6⟩
        | false =>
          show wpAny _ X.A (handleBy (.ref a) X.env hds2) _ _ _
          exact ih (hno rfl)
    exact go hh w
  · cases f with
    | next =>
      obtain ⟨σ', H', J', q⟩ := hsp
      exact wpAny_execs_nil ⟨σ', H', J'.ofTry ok, q⟩
    | brk =>
      obtain ⟨σ', H', J', q⟩ := hsp
      exact ⟨σ', H', J'.ofTry ok, q⟩
    | cont =>
      obtain ⟨σ', H', J', q⟩ := hsp
      exact ⟨σ', H', J'.ofTry ok, q⟩
    | ret u =>
      obtain ⟨v, σ', H', J', r, q⟩ := hsp
      exact ⟨v, σ', H', J'.ofTry ok, r, q⟩
end
def sHnd (i : Nat) (fh : SF) (fs : List (Str × D)) (ρ1 : RS) (g1 : G) : SO := if noEx ρ1 = true then (match fh (ρ1.set i (.ex fs)) g1 with
  | .nx ρ2 g2 => if noEx (ρ2.set i .un) = true then .nx (ρ2.set i .un) g2 else .bad
  | .bk ρ2 g2 => if noEx (ρ2.set i .un) = true then .bk (ρ2.set i .un) g2 else .bad
  | .ct ρ2 g2 => if noEx (ρ2.set i .un) = true then .ct (ρ2.set i .un) g2 else .bad
  | .rt d g2 => .rt d g2
  | _ => .bad) else .bad
def hndM (m : Str) (fs : List (Str × D)) (ρ1 : RS) (g1 : G) : List (Nat × Str × SF) → SO
  | [] => .exc m fs ρ1 g1
  | (i, n, fh) :: r => if m = n then sHnd i fh fs ρ1 g1 else hndM m fs ρ1 g1 r
def sTryM (fb : SF) (l : List (Nat × Str × SF)) : SF := fun ρ g => match fb ρ g with
  | .exc m fs ρ1 g1 => hndM m fs ρ1 g1 l
  | o => o
inductive DHs (X : Cx) (c : Ctx) : List ExceptHandler → List (Nat × Str × SF) → Prop
  | nil : DHs X c [] []
  | cons {i : Nat} {n : Str} {C : Addr} {suite : List Stmt} {b₀ : Stmt} {np pos' : Pos} {nn : Str} {fh : SF} {hds : List ExceptHandler} {l : List (Nat × Str × SF)} (hi : X.N[i]? = some nn) (hln : X.env.kindOf nn = some .local) (hc : Names X n (.ref C)) (hcl : c.cl n = some C)
      (hmt : ∀ (m : Str) (C' : Addr), c.cl m = some C' → PySem.W.exmOne X.K (.ref C') (.ref C) = some (decide (m = n)))
      (hsu : ∀ (a dd : Addr) (oe : Obj) (pn : List (Addr × Obj)), Zc (.ref C) (some dd) oe → (∃ vs, oe.data = .fields vs) → DSs (X.suite a ((a, oe) :: pn)) (c.at a dd) W0 (b₀ :: suite) fh) (r : DHs X c hds l) :
      DHs X c (.ExceptHandler (some (.Name n np)) (some nn) (b₀ :: suite) pos' :: hds) ((i, n, fh) :: l)
theorem hnd_ok {X : Cx} {c : Ctx} {W : WX} {E : Ends} {i : Nat} {fh : SF} {fs : List (Str × D)} {ρ1 : RS} {g1 : G} {F F1 H1 : Hp} {σ1 : L2.St} {dx : Addr} {vs : List (Str × V)} (h : SPost c (sHnd i fh fs ρ1 g1) F W E) (e1 : Same F F1) (s1 : SR c F1 H1 σ1 ρ1 g1) (hd1 : H1 dx = some (.xd vs)) (hf1 : FldR c F1 vs fs) (a : Addr) :
    tS (c.at a dx) W0 fh { nx := fun σ' H' => E.nx (σ'.set i none) H', rt := E.rt, bk := fun σ' H' => E.bk (σ'.set i none) H', ct := fun σ' H' => E.ct (σ'.set i none) H' } (σ1.set i (some (.ref a))) H1 := by
  unfold sHnd at h
  by_cases hn : noEx ρ1 = true
  · rw [if_pos hn] at h
    have s2 : SR (c.at a dx) F1 H1 (σ1.set i (some (.ref a))) (ρ1.set i (.ex fs)) g1 := SR.setE (c := c.at a dx) (s1.at (a0 := a) (d0 := dx) hn) (h1 := hd1) (FldR.conv (c := c) rfl hf1) i
    refine ⟨F1, _, g1, s2, ?_⟩
    cases q2 : fh (ρ1.set i (.ex fs)) g1 with
    | nx ρ2 g2 =>
      simp only [q2] at h
      obtain ⟨hn2, h⟩ := h.ite
      exact fun σ3 F3 H3 e3 s3 => h _ F3 H3 (e1.trans e3) (SR.back (c := c) (s3.unset none i) hn2)
    | bk ρ2 g2 =>
      simp only [q2] at h
      obtain ⟨hn2, h⟩ := h.ite
      exact fun σ3 F3 H3 e3 s3 => h _ F3 H3 (e1.trans e3) (SR.back (c := c) (s3.unset none i) hn2)
    | ct ρ2 g2 =>
      simp only [q2] at h
      obtain ⟨hn2, h⟩ := h.ite
      exact fun σ3 F3 H3 e3 s3 => h _ F3 H3 (e1.trans e3) (SR.back (c := c) (s3.unset none i) hn2)
    | rt d g2 =>
      simp only [q2] at h
      exact fun σ3 ρ3 v F3 H3 e3 s3 r3 => by
        have s4 : SR c F3 H3 (σ3.map fun _ => none) (ρ3.map fun _ => .un) g2 := {
          ext := s3.ext
          gok := GOk.conv (c := c.at a dx) rfl rfl s3.gok
          g0 := s3.g0
          len := by rw [List.length_map, List.length_map, s3.len]
          slots := fun j y hy => by
            rw [List.getElem?_map] at hy
            cases z : ρ3[j]? with
            | none => rw [z] at hy; cases hy
            | some y' => rw [z] at hy; cases hy; trivial
          sep := fun j k xs ys b k1 => by
            rw [List.getElem?_map] at k1
            cases z : ρ3[j]? with
            | none => rw [z] at k1; cases k1
            | some y' => rw [z] at k1; cases k1 }
        exact h _ _ v F3 H3 (e1.trans e3) s4 (Rep.conv (c := c.at a dx) rfl rfl r3)
    | exc _ _ _ _ => simp only [q2] at h; exact h.elim
    | bad => simp only [q2] at h; exact h.elim
  · rw [if_neg hn] at h; exact h.elim
theorem ds_tryM {X : Cx} {c : Ctx} {W : WX} {body : List Stmt} {h₀ : ExceptHandler} {hds : List ExceptHandler} {pos : Pos} {fb : SF} {l : List (Nat × Str × SF)} (hs : X.stack = X.env :: X.outer) (hf : X.env.frame = some X.env.locals) (hN : X.N.Nodup) (tk : Takes X W)
    (hb : ∀ (W : WX) (pn : List (Addr × Obj)) (xe : Value → Shared → Prop), Takes (X.tr pn xe) W → PassesOwn (model X.prog X.w) X.A X.env xe → DSs (X.tr pn xe) c W body fb)
    (hh : DHs X c (h₀ :: hds) l) : DS X c W (.Try body (h₀ :: hds) [] [] pos) (sTryM fb l) := by
  have key : ∀ {hds : List ExceptHandler} {l : List (Nat × Str × SF)}, DHs X c hds l → ∃ l', HdsAs X hds l' ∧ ∀ (E : Ends) (m : Str) (fs : List (Str × D)) (ρ1 : RS) (g1 : G) (F : Hp), SPost c (hndM m fs ρ1 g1 l) F W E →
      ∀ C dx vs σ1 F1 H1, Same F F1 → SR c F1 H1 σ1 ρ1 g1 → c.cl m = some C → H1 dx = some (.xd vs) → FldR c F1 vs fs → wAsM X.K W E l' (.ref C) (some dx) σ1 H1 := by
    intro hds l hk
    induction hk with
    | nil => exact ⟨[], .nil, fun E m fs ρ1 g1 F h => fun C dx vs σ1 F1 H1 e1 s1 hc hd hf => h C dx vs σ1 F1 H1 e1 s1 hc hd hf⟩
    | @cons i n C suite b₀ np pos' nn fh hds l hi hln hc hcl hmt hsu r ih =>
      obtain ⟨l', h1, h2⟩ := ih
      refine ⟨(.ref C, i, fun a cls d E σ H => cls = .ref C ∧ ∃ dd, d = some dd ∧ tS (c.at a dd) W0 fh E σ H) :: l', .cons hi hln hc (fun a oe cls d pn hz hd => ⟨fun pins s σ H E I w => by
        obtain ⟨rfl, dd, rfl, w⟩ := w
        exact (hsu a dd oe pn hz hd).run pins s σ H E I w⟩) h1, ?_⟩
      intro E m fs ρ1 g1 F h C' dx vs σ1 F1 H1 e1 s1 hc1 hd1 hf1
      refine ⟨decide (m = n), hmt m C' hc1, fun hb a na => ?_, fun hb => ?_⟩
      · have em : m = n := of_decide_eq_true hb
        unfold hndM at h
        rw [if_pos em] at h
        have ec : C' = C := by rw [em, hcl] at hc1; exact (Option.some.inj hc1).symm
        subst ec
        exact ⟨rfl, dx, rfl, hnd_ok (X := X) h e1 s1 hd1 hf1 a⟩
      · have em : ¬ m = n := of_decide_eq_false hb
        unfold hndM at h
        rw [if_neg em] at h
        exact h2 E m fs ρ1 g1 F h C' dx vs σ1 F1 H1 e1 s1 hc1 hd1 hf1
  obtain ⟨l', h1, h2⟩ := key hh
  refine PS.imp (ps_try_asM (tb := fun W => tS c W fb) (Wout := W) hs hf hN tk hb h1) fun E σ H ⟨F, ρ, g, s, h⟩ => ?_
  refine ⟨F, ρ, g, s, ?_⟩
  unfold sTryM at h
  cases q : fb ρ g with
  | nx ρ1 g1 => simp only [q] at h; exact h
  | rt d g1 => simp only [q] at h; exact h
  | bk ρ1 g1 => simp only [q] at h; exact h
  | ct ρ1 g1 => simp only [q] at h; exact h
  | bad => simp only [q] at h; exact h
  | exc m fs ρ1 g1 =>
    simp only [q] at h
    exact fun C' dx vs σ1 F1 H1 e1 s1 hc1 hd1 hf1 => h2 E m fs ρ1 g1 F h C' dx vs σ1 F1 H1 e1 s1 hc1 hd1 hf1
end DL
namespace DL
open PySem PySem.Spec PyProof.Rows L2 PySem.Calls
section
variable {prog : Program} {w : World} {A : Around} {E : Value → Shared → Prop} {s : Shared}
def oneCopy (h : Heap) (vs : List Value) : Heap :=
  let h1 := h.push (seqObj "list" #[] 0)
  h1.update h.objs.size (Obj.mapSeq (· ++ vs.toArray))
theorem nilApp (vs : List Value) : (#[] : Array Value) ++ vs.toArray = vs.toArray := by simp
theorem collectT {l : Addr} {vs : List Value}
    {Q : List Value → Shared → Prop}
    (hl : IsTup s.heap l vs.toArray)
    (hz : vs.length ≤ sizeLine)
    (h : Q vs { s with heap := oneCopy s.heap vs }) :
    wpAny (model prog w) A (collect (.ref l)) Q E s := by
  obtain ⟨ob, hob, hcl, k, hdat⟩ := hl
  have h0 : (s.heap.push (seqObj "list" #[] 0)).get? s.heap.objs.size
      = some (seqObj "list" #[] 0) := Heap.get?_push_size _ rfl
  have h1 : (s.heap.push (seqObj "list" #[] 0)).get? l = some ob :=
    Heap.get?_push_of_some _ hob
  have tT : (Value.type "tuple" == Value.type "tuple") = true := by rfl
  unfold collect
  refine wpAny_bind (wpAny_runValue
    (codeAny_builtin entry_proto_collect' ?_))
  show wpAny _ _ (do
    again (.builtin "list.__iadd__" ⟨[← newList [], .ref l], []⟩)) _ _ s
  refine wpAny_bind (wpAny_newList (wpAny_pure
    ⟨Code.quiet_builtin _ (by decide +kernel),
      codeAny_builtin entry_list_iadd' ?_⟩))
  show wpAny _ _ (Builtin.List.listExtendWith
    (.ref s.heap.objs.size) (.ref l) (.ref s.heap.objs.size)) _ _
    { s with heap := s.heap.push (seqObj "list" #[] 0) }
  unfold Builtin.List.listExtendWith
  refine wpAny_bind (wpAny_typeOf
    (T := "tuple") ⟨ob, h1, hcl⟩ ?_)
  rw [if_pos (by rw [tT]; exact Bool.or_true _)]
  refine wpAny_bind (listItems_at h1 hdat ?_)
  refine wpAny_bind (listItems_at
    (xs := #[]) (n := 0) h0 rfl ?_)
  rw [if_neg (by simp)]
  refine wpAny_bind (listUpdate_at
    (xs := #[]) (n := 0) h0 rfl ?_ (Nat.zero_le _)
    (by
      show (#[] ++ vs.toArray).size ≤ _
      rw [nilApp, List.size_toArray]
      omega))
  refine wpAny_pure ?_
  show wpAny (model prog w) A (do
      let o ← load s.heap.objs.size
      match o.data with
      | .seq xs _ => pure xs.toList
      | _ => unsupported "internal:collect") Q E { s with heap := oneCopy s.heap vs }
  refine wpAny_bind (wpAny_load
    (get?_update_seq h0 _) ?_)
  show wpAny _ _
    (pure ((#[] : Array Value) ++ vs.toArray).toList) Q E _
  rw [nilApp]
  exact wpAny_pure h
theorem sortedT_of {l : Addr} {vs : List Value}
    {Q : Value → Shared → Prop} (hl : IsTup s.heap l vs.toArray)
    (hz : vs.length ≤ sizeLine)
    (body : ∀ E' : Value → Shared → Prop,
      wpAny (model prog w) A.in1.in1
        (Builtin.«list.sort» ⟨[.ref (s.heap.objs.size + 1)], []⟩)
        (fun f t => f = .done (.ret .none) ∧ Q (.ref (s.heap.objs.size + 1)) t)
        E' { s with heap := PySem.W.copyHeap s.heap vs }) :
    wpAny (model prog w) A
      (call (.builtin "sorted") [.ref l]) Q E s := by
  refine call_function_entry_kw kind_sorted
    plain_sorted entry_sorted (args_sorted1 _) ?_
  unfold Builtin.«sorted»
  refine wpAny_bind
    (m := checkCount "sorted" 1 1 _) (wpAny_pure ?_)
  refine wpAny_bind (collectT hl hz ?_)
  refine wpAny_bind (wpAny_newList ?_ hz)
  have hn : (oneCopy s.heap vs).objs.size = s.heap.objs.size + 1 := by
    unfold oneCopy
    dsimp only
    rw [Heap.size_update, size_push']
  show wpAny _ _ _ _ _
    { s with heap := PySem.W.copyHeap s.heap vs }
  rw [hn]
  refine wpAny_bind (wpAny_holding
    (wpAny_call_entry_kw slot_list_sort
      ⟨_, PySem.W.copyHeap_at s.heap vs, rfl⟩ entry_list_sort ?bd (args_list_sort _)))
  case bd =>
    show wpAny (model prog w) A.in1.in1
      (Builtin.«list.sort» ⟨[.ref (s.heap.objs.size + 1)], []⟩) _ _ _
    refine wpAny_mono (body _)
      (fun f t ⟨e, q⟩ => ?_) fun _ _ e => e
    subst e
    exact ⟨_, rfl, wpAny_pure ⟨_, rfl, q⟩⟩
theorem sortedT_data {β : Type} {vs : List Value} {bs : List β} {enc : β → PyData}
    {R : Value → β → Prop} {l : Addr} {Q : Value → Shared → Prop}
    (hl : IsTup s.heap l vs.toArray) (e : PySem.W.EachIs R vs bs)
    (er : PySem.W.EachIs (fun v b => ∃ as, Reads s.heap v (enc b) as) vs bs)
    (hal : PySem.W.AllAlike (bs.map enc)) (hk : PySem.W.Sortable (bs.map enc))
    (hL : bs.length ≤ sizeLine)
    (hu : ∀ b, b ∈ bs → A.units + 2 + (enc b).depth < cLine)
    (h : ∀ out, out.length = bs.length →
      PySem.W.EachIs R out (bs.mergeSort (PySem.W.dataLe false enc)) →
      Q (.ref (s.heap.objs.size + 1)) { s with heap := sortedAll s.heap vs (List.toArray out) }) :
    wpAny (model prog w) A
      (call (.builtin "sorted") [.ref l]) Q E s := by
  let hp := PySem.W.sortingHeap (PySem.W.copyHeap s.heap vs) (s.heap.objs.size + 1) vs
  have er2 : PySem.W.EachIs (fun v b => ∃ as, Reads hp v (enc b) as) vs bs :=
    er.mono fun _ _ ⟨as, r⟩ =>
      ⟨as, PyProof.Rows.Reads.keeps (fun _ _ => PySem.W.sorting_copy_old) r⟩
  have hz : vs.length ≤ sizeLine := by
    rw [e.length]
    exact hL
  have S := PySem.W.SortsAt.data (prog := prog) (w := w) (A := A.in1.in1) (s := { s with heap := hp })
    (PySem.W.each_map (R := fun v d => ∃ as, Reads hp v d as) enc er2) hal hk (PySem.W.bound_map hu)
  refine sortedT_of hl hz fun _ => PySem.W.list_sort_vals
    (s := { s with heap := PySem.W.copyHeap s.heap vs })
    (PySem.W.copyHeap_at s.heap vs) S hz ⟨rfl, ?_⟩
  exact h _ (by
    rw [PySem.W.sortVals_length false rfl]
    exact e.length) (PySem.W.sortVals_data false e er2 hal)
end
theorem each_of {P : V → D → Prop} : ∀ {xs : List V} {us : List Value} {ds : List D}, Vals xs us → Paired P xs ds → PySem.W.EachIs (fun u d => ∃ x, L2.RelV x u ∧ P x d) us ds
  | _, _, _, .nil, h => by cases h; exact .nil
  | _, _, _, .cons r t, h => by
    cases h with
    | cons h1 h2 => exact .cons ⟨_, r, h1⟩ (each_of t h2)
theorem of_each {P : V → D → Prop} : ∀ {us : List Value} {ds : List D}, PySem.W.EachIs (fun u d => ∃ x, L2.RelV x u ∧ P x d) us ds → ∃ xs, Vals xs us ∧ Paired P xs ds
  | _, _, .nil => ⟨[], .nil, .nil⟩
  | _, _, .cons ⟨x, r, p⟩ t => by
    obtain ⟨xs, h1, h2⟩ := of_each t
    exact ⟨x :: xs, .cons r h1, .cons p h2⟩
def rSortedDt (K : PySem.W.Frag) : List V → Hp → VK → Prop := fun vs H Q => ∃ (a : Addr) (xs : List V) (ds : List D) (P : V → D → Prop), vs = [.ref a] ∧ (SqL K H a xs ∨ SqT K H a xs) ∧ DpAll K H xs ds ∧ Paired P xs ds ∧ PySem.W.AllAlike ds ∧ PySem.W.Sortable ds ∧ (∀ d ∈ ds, d.depth ≤ 64) ∧
  ∀ (ys : List V) (p : Addr), Paired P ys (ds.mergeSort (PySem.W.dataLe false id)) → H p = none → Q (.ref p) (upd H p (.lst ys))
theorem cr_sortedDt {X : Cx} (hu : X.A.units + 100 < cLine) : CallR X (.builtin "sorted") (rSortedDt X.K) := by
  intro pins s σ H vs us Q I r h
  obtain ⟨a, xs, ds, P, rfl, hs, hd, hp, hal, hso, hdp, q⟩ := h
  obtain ⟨u, rfl, ru⟩ := vals1 r
  obtain rfl : u = Value.ref a := ru
  have inv : ∃ its : List Value, Vals xs its ∧ (s.heap.IsList a its.toArray ∨ IsTup s.heap a its.toArray) ∧ xs.length ≤ sizeLine := by
    rcases hs with hs | hs
    · obtain ⟨its, rv, hl, hz⟩ := I.list hs
      exact ⟨its, rv, .inl hl.isList, hz⟩
    · obtain ⟨its, rv, hl, hz⟩ := I.tuple hs
      exact ⟨its, rv, .inr hl, hz⟩
  obtain ⟨its, rv, hl, hz⟩ := inv
  obtain ⟨as, hr⟩ := Dp.readsAll I ds xs its hd rv
  have hlen : ds.length = its.length := by rw [← hp.length]; exact rv.length
  have hr' : ReadsAll s.heap its (ds.map id) as := by rw [List.map_id]; exact hr
  have hbd : ∀ b, b ∈ ds → X.A.units + 2 + (id b : D).depth < cLine := fun b hb => by
    have := hdp b hb
    show X.A.units + 2 + PyData.depth b < cLine
    omega
  have hq : ∀ out : List Value, out.length = ds.length → PySem.W.EachIs (fun u d => ∃ x, L2.RelV x u ∧ P x d) out (ds.mergeSort (PySem.W.dataLe false id)) → EP X pins σ Q (.ref (s.heap.objs.size + 1)) { s with heap := sortedAll s.heap its (List.toArray out) } := fun out ho he => by
    obtain ⟨ys, h1, h2⟩ := of_each he
    obtain ⟨n, hn⟩ := sortedAll_at s.heap its out.toArray
    have kp : ∀ b o, s.heap.get? b = some o → (sortedAll s.heap its out.toArray).get? b = some o := fun b o e => sortedAll_old e
    refine ⟨.ref (s.heap.objs.size + 1), upd H (s.heap.objs.size + 1) (.lst ys), I.laid (t' := s.toks) kp (Nat.le_succ _) ⟨?_, out, n, h1, hn⟩, rfl, q ys _ h2 (I.hok.fresh (Nat.le_succ _))⟩
    rw [h1.length, ho, hlen, ← rv.length]
    exact hz
  rcases hl with hl | hl
  · exact PySem.W.sorted_data (β := D) (enc := id) (R := fun u d => ∃ x, L2.RelV x u ∧ P x d) hl (each_of rv hp) (PySem.W.readsAll_each id hr') (by rw [List.map_id]; exact hal) (by rw [List.map_id]; exact hso) (by rw [hlen, ← rv.length]; exact hz) hbd hq
  · exact sortedT_data (β := D) (enc := id) (R := fun u d => ∃ x, L2.RelV x u ∧ P x d) hl (each_of rv hp) (PySem.W.readsAll_each id hr') (by rw [List.map_id]; exact hal) (by rw [List.map_id]; exact hso) (by rw [hlen, ← rv.length]; exact hz) hbd hq
def insD (x : D) : List D → List D
  | [] => [x]
  | y :: r => if PySem.W.dataLe false id x y = true then x :: y :: r else y :: insD x r
def sortD : List D → List D
  | [] => []
  | x :: r => insD x (sortD r)
theorem insD_mid {x : D} : ∀ {l1 l2 : List D}, (∀ b ∈ l1, PySem.W.dataLe false id x b = false) → (∀ y ∈ l2, PySem.W.dataLe false id x y = true) → insD x (l1 ++ l2) = l1 ++ x :: l2
  | [], [], _, _ => rfl
  | [], y :: l2, _, h2 => by
    show (if PySem.W.dataLe false id x y = true then x :: y :: l2 else y :: insD x l2) = x :: y :: l2
    rw [if_pos (h2 y List.mem_cons_self)]
  | b :: l1, l2, h1, h2 => by
    show (if PySem.W.dataLe false id x b = true then x :: b :: (l1 ++ l2) else b :: insD x (l1 ++ l2)) = b :: (l1 ++ x :: l2)
    rw [if_neg (by rw [h1 b List.mem_cons_self]; decide), insD_mid (fun c hc => h1 c (List.mem_cons_of_mem _ hc)) h2]
theorem sortD_eq : ∀ ds : List D, ds.mergeSort (PySem.W.dataLe false id) = sortD ds
  | [] => by rw [List.mergeSort_nil]; rfl
  | x :: r => by
    have T : PySem.W.TotalLe (PySem.W.dataLe (β := D) false id) := PySem.W.sortLe_total _ _ _
    obtain ⟨l1, l2, e1, e2, e3⟩ := List.mergeSort_cons T.trans (fun a b => by have := T.total a b; simpa [Bool.or_eq_true] using this) x r
    have hp := PySem.W.sort_pairwise T (x :: r)
    rw [e1] at hp
    rw [e1]
    show _ = insD x (sortD r)
    rw [← sortD_eq r, e2, insD_mid (fun b hb => by simpa using e3 b hb) fun y hy => ?_]
    exact (List.pairwise_cons.mp (List.pairwise_append.mp hp).2.1).1 y hy
def tupI : D → Bool
  | .tuple (x :: r) => (asInts (x :: r)).isSome
  | _ => false
def tupIT : D → Bool
  | .tuple [.int _, .tuple ys] => (asInts ys).isSome
  | _ => false
def intD : D → Bool
  | .int _ => true
  | _ => false
def sortOk (xs : List D) : Bool := xs.all intD || xs.all tupI || xs.all tupIT
theorem asInts_some {xs : List D} (h : (asInts xs).isSome = true) : ∃ ns : List Int, xs = ns.map .int := by
  obtain ⟨ns, e⟩ := Option.isSome_iff_exists.mp h
  exact ⟨ns, asInts_of e⟩
theorem depth_ii (ns : List Int) : PyData.depthAll (ns.map .int) = 0 := PySem.W.depth_ints ns
theorem sortOk_all {xs : List D} (h : sortOk xs = true) : PySem.W.AllAlike xs ∧ PySem.W.Sortable xs ∧ ∀ d ∈ xs, d.depth ≤ 64 := by
  unfold sortOk at h
  simp only [Bool.or_eq_true, List.all_eq_true] at h
  rcases h with (h | h) | h
  · have k : ∀ d ∈ xs, ∃ i, d = .int i := fun d hd => by
      have := h d hd
      cases d with
      | int i => exact ⟨i, rfl⟩
      | _ => cases this
    refine ⟨fun d hd e he => ?_, .inr fun d hd => ?_, fun d hd => ?_⟩
    · obtain ⟨i, rfl⟩ := k d hd
      obtain ⟨j, rfl⟩ := k e he
      simp [PySem.W.alike]
    · obtain ⟨i, rfl⟩ := k d hd
      exact ⟨fun e => (by cases e), fun xs e => (by cases e)⟩
    · obtain ⟨i, rfl⟩ := k d hd
      simp [PyData.depth]
  · have k : ∀ d ∈ xs, ∃ (i : Int) (ns : List Int), d = .tuple ((i :: ns).map .int) := fun d hd => by
      have := h d hd
      cases d with
      | tuple ys =>
        cases ys with
        | nil => cases this
        | cons y r =>
          obtain ⟨ns, e⟩ := asInts_some (show (asInts (y :: r)).isSome = true from this)
          cases ns with
          | nil => cases e
          | cons i ns => exact ⟨i, ns, by rw [e]⟩
      | _ => cases this
    refine ⟨fun d hd e he => ?_, .inl fun d hd => ?_, fun d hd => ?_⟩
    · obtain ⟨i, ns, rfl⟩ := k d hd
      obtain ⟨j, ms, rfl⟩ := k e he
      rw [PySem.W.alike]
      exact PySem.W.alike_ints _ _
    · obtain ⟨i, ns, rfl⟩ := k d hd
      exact ⟨_, _, rfl⟩
    · obtain ⟨i, ns, rfl⟩ := k d hd
      rw [PyData.depth, depth_ii]
      omega
  · have k : ∀ d ∈ xs, ∃ (i : Int) (ns : List Int), d = .tuple [.int i, .tuple (ns.map .int)] := fun d hd => by
      have := h d hd
      unfold tupIT at this
      split at this
      · rename_i i ys
        obtain ⟨ns, e⟩ := asInts_some this
        exact ⟨i, ns, by rw [e]⟩
      · cases this
    refine ⟨fun d hd e he => ?_, .inl fun d hd => ?_, fun d hd => ?_⟩
    · obtain ⟨i, ns, rfl⟩ := k d hd
      obtain ⟨j, ms, rfl⟩ := k e he
      simp only [PySem.W.alike, PySem.W.alikeAll, Bool.and_true, Bool.true_and]
      exact PySem.W.alike_ints _ _
    · obtain ⟨i, ns, rfl⟩ := k d hd
      exact ⟨_, _, rfl⟩
    · obtain ⟨i, ns, rfl⟩ := k d hd
      simp only [PyData.depth, PyData.depthAll, depth_ii]
      omega
def bSortA (ds : List D) (g : G) : Out D := match ds with
  | [.list xs] => if sortOk xs = true then .ok (.list (sortD xs)) g else .bad
  | [.tuple xs] => if sortOk xs = true then .ok (.list (sortD xs)) g else .bad
  | _ => .bad
theorem rq_paired {K : PySem.W.Frag} {F : Hp} : ∀ {vs : List V} {ds : List D}, RqAll K F vs ds → Paired (Rq K F) vs ds
  | _, _, .nil => .nil
  | _, _, .cons h t => .cons h (rq_paired t)
theorem paired_rq {K : PySem.W.Frag} {F : Hp} : ∀ {vs : List V} {ds : List D}, Paired (Rq K F) vs ds → RqAll K F vs ds
  | _, _, .nil => .nil
  | _, _, .cons h t => .cons h (paired_rq t)
theorem hu100 {A : Around} {k : Nat} (hr : Room k A) : A.units + 100 < cLine := by have := hr.un; omega
theorem kl_sortA {c : Ctx} {W : WX} : KeepsL c W (rSortedDt c.K) bSortA := by
  intro σ ρ g F H vs ds Q s r h
  unfold bSortA at h
  split at h
  · rename_i xs
    obtain ⟨v, rfl, rv⟩ := rep1 r
    obtain ⟨hk, h⟩ := h.ite
    obtain ⟨h1, h2, h3⟩ := sortOk_all hk
    obtain ⟨a, ws, rfl, q1, q2⟩ := rv.list
    refine ⟨a, ws, xs, Rq c.K F, rfl, .inl (SqL.of (s.fh _ _ q1)), RqAll_dp _ _ (RqAll_mono s.fh _ _ q2), rq_paired q2, h1, h2, h3, fun ys p hp hn => ?_⟩
    rw [sortD_eq] at hp
    exact h.newList s hn (paired_rq hp)
  · rename_i xs
    obtain ⟨v, rfl, rv⟩ := rep1 r
    obtain ⟨hk, h⟩ := h.ite
    obtain ⟨h1, h2, h3⟩ := sortOk_all hk
    obtain ⟨a, ws, rfl, q1, q2⟩ := rv.tuple
    refine ⟨a, ws, xs, Rq c.K F, rfl, .inr (seqT_mono s.fh q1), RqAll_dp _ _ (RqAll_mono s.fh _ _ q2), rq_paired q2, h1, h2, h3, fun ys p hp hn => ?_⟩
    rw [sortD_eq] at hp
    exact h.newList s hn (paired_rq hp)
  · exact h.elim
end DL
namespace DL
open PySem
open PySem.Spec
open PyProof.Rows
open L2
section
variable {prog : Program} {w : World} {A : Around} {E : Value → Shared → Prop} {s : Shared}
theorem adjust_rev (n : Nat) : Builtin.Slice.sliceAdjust none none (-1) (n : Int) = ((n : Int) - 1, -1) := by
  unfold Builtin.Slice.sliceAdjust
  have h1 : ((-1 : Int) < 0) := by decide
  simp only [h1, if_true]
theorem places_rev (n : Nat) : Builtin.Slice.slicePlaces ((n : Int) - 1) (-1) (-1) = n := by
  unfold Builtin.Slice.slicePlaces
  have h1 : ¬ (-1 : Int) > 0 := by decide
  simp only [h1, if_false]
  have e : - (-1 : Int) = 1 := by decide
  rw [e, Int.ediv_one]
  split <;> omega
theorem sliceApplied_rev {sl : Addr} {vs : Value} {n : Nat} {Q : Int × Int × Nat → Shared → Prop} (hs : s.heap.IsSliceOf sl .none .none vs) (ps : IsPart vs (some (-1)))
    (h : Q ((n : Int) - 1, -1, n) s) : wpAny (model prog w) A (Builtin.Slice.sliceApplied (.ref sl) (pure (n : Int))) Q E s := by
  obtain ⟨os, hos, hcs, hds⟩ := id hs
  unfold Builtin.Slice.sliceApplied Builtin.Slice.sliceFields
  refine wpAny_bind (wpAny_bind (wpAny_field hos hds (x := .none) rfl (wpAny_bind (wpAny_field hos hds (x := .none) rfl (wpAny_bind (wpAny_field hos hds (x := vs) rfl (wpAny_pure ?_)))))))
  refine wpAny_bind (HT.slicePart_ ps ?_)
  show wpAny _ _ (if ((-1 : Int) == 0) = true then _ else _) _ _ s
  rw [if_neg (by decide)]
  refine wpAny_bind (slicePart_none (wpAny_bind (slicePart_none (wpAny_bind (wpAny_pure ?_)))))
  show wpAny _ _ (match Builtin.Slice.sliceAdjust none none (-1) (n : Int) with | (lo, hi) => pure (lo, (-1 : Int), Builtin.Slice.slicePlaces lo hi (-1))) _ _ s
  rw [adjust_rev n]
  show wpAny _ _ (pure ((n : Int) - 1, (-1 : Int), Builtin.Slice.slicePlaces ((n : Int) - 1) (-1) (-1))) _ _ s
  rw [places_rev]
  exact wpAny_pure h
theorem pick_rev (xs : Array Value) : ((List.range xs.size).filterMap fun (m : Nat) => xs[((xs.size : Int) - 1 + (m : Int) * -1).toNat]?).toArray = xs.toList.reverse.toArray := by
  have e : ∀ l : List Nat, (l.filterMap fun (m : Nat) => xs[((xs.size : Int) - 1 + (m : Int) * -1).toNat]?) = (l.map fun k => xs.size - 1 - k).filterMap (xs[·]?) := by
    intro l
    rw [List.filterMap_map]
    congr 1
    funext m
    show xs[((xs.size : Int) - 1 + (m : Int) * -1).toNat]? = xs[xs.size - 1 - m]?
    have : ((xs.size : Int) - 1 + (m : Int) * -1).toNat = xs.size - 1 - m := by omega
    rw [this]
  rw [e, PySem.W.krv_range, List.filterMap_reverse, PySem.W.krv_all]
theorem getItem_tuple_rev {t sl : Addr} {items : Array Value} {vs : Value} {Q : Value → Shared → Prop} (ht : IsTup s.heap t items) (hs : s.heap.IsSliceOf sl .none .none vs) (ps : IsPart vs (some (-1)))
    (h : Q (.ref s.heap.objs.size) { s with heap := s.heap.push { cls := .type "tuple", data := .seq items.toList.reverse.toArray } })
    (hsz : items.size ≤ sizeLine) : wpAny (model prog w) A (getItem (.ref t) (.ref sl)) Q E s := by
  have htake : sizeOk (.seq items.toList.reverse.toArray) := by
    show items.toList.reverse.toArray.size ≤ sizeLine
    rw [List.size_toArray, List.length_reverse, Array.length_toList]
    omega
  obtain ⟨os, hos, hcs, hds⟩ := id hs
  have hTs : s.TypeIs (.ref sl) "slice" := ⟨os, hos, hcs⟩
  unfold getItem
  try with_reducible refine wpAny_holding ?_
  first | refine wpAny_bind (wpAny_pure ?_) | skip
  refine wpAny_bind (wpAny_sequenceKey ht.typeIs (by decide) ?_)
  refine wpAny_bind (wpAny_callSpecial?_slot (name := Str.ofString "__getitem__") ht.typeIs PyProof.Rows.slot_tuple_getitem
    (wpAny_call_entry PyProof.Rows.slot_tuple_getitem ht.typeIs entry_tuple_getitem ?_ (args_tuple_getitem _ _)))
  show wpAny _ _ (Builtin.Tuple.tupleItemsOf (.ref t) >>= _) _ _ s
  refine wpAny_bind (tupleItemsOf_ ht ?_)
  refine wpAny_bind (wpAny_typeOf hTs ?_)
  rw [if_pos (by decide)]
  refine wpAny_bind (sliceApplied_rev hs ps ?_)
  have hno : ¬ ((((items.size : Int) - 1) == 0 && (-1 : Int) == 1 && items.size == items.size) = true) := by
    intro q
    rw [Bool.and_eq_true, Bool.and_eq_true] at q
    exact absurd q.1.2 (by decide)
  show wpAny _ _ (if (((items.size : Int) - 1) == 0 && (-1 : Int) == 1 && items.size == items.size) = true then _ else _) _ _ s
  rw [if_neg hno, pick_rev]
  first
    | exact wpAny_bind (m := Builtin.Tuple.tupleExact _) (wpAny_newObj_type (wpAny_pure ⟨_, rfl, wpAny_pure h⟩) htake)
    | exact wpAny_bind (m := Builtin.Tuple.tupleExact _) (wpAny_newObj_type (wpAny_bind (wpAny_pure (wpAny_pure ⟨_, rfl, wpAny_pure h⟩))) htake)
    | exact wpAny_bind (wpAny_bind (m := Builtin.Tuple.tupleExact _) (wpAny_newObj_type (wpAny_pure (wpAny_pure ⟨_, rfl, wpAny_pure h⟩)) htake))
    | exact wpAny_bind (wpAny_bind (m := Builtin.Tuple.tupleExact _) (wpAny_newObj_type (wpAny_pure ⟨_, rfl, wpAny_pure h⟩) htake))
end
def tRevA (K : PySem.W.Frag) (te : TE) : TE := fun σ H Q => te σ H fun x H1 => (∃ a xs, x = .ref a ∧ SqL K H1 a xs ∧ ∀ p, H1 p = none → Q (.ref p) (upd H1 p (.lst xs.reverse))) ∨
  (∃ a xs, x = .ref a ∧ SqT K H1 a xs ∧ ∀ p, H1 p = none → Q (.ref p) (upd H1 p (.tup xs.reverse)))
theorem pe_revA {X : Cx} {e : Expr} {te : TE} {k : Nat} {p1 p2 p3 pos : Pos} (he : PE X e te) : PE X (.Subscript e (.Slice none none (some (.UnaryOp .USub (.Constant (.int 1) k p1) p2)) p3) pos) (tRevA X.K te) := by
  refine ⟨fun pins s σ H Q I h => ?_⟩
  refine Subscript_ (thn (he.run pins s σ H _ I h) fun v s1 ⟨x, H1, I1, r1, q1⟩ => ?_)
  have hst : PO X (some (.UnaryOp .USub (.Constant (.int 1) k p1) p2)) (tPart (tUn (rU fun i => .int (-i)) (tC (.int 1)))) := po_some (pe_un un_neg pe_int)
  refine wpAny_Slice (thn (po_none.run pins s1 σ H1 (fun o H2 => o = none ∧ H2 = H1) I1 ⟨rfl, rfl⟩) fun vl s2 ⟨l, H2, I2, pl, el, e2⟩ => ?_)
  subst el e2
  refine thn (po_none.run pins s2 σ H2 (fun o H3 => o = none ∧ H3 = H2) I2 ⟨rfl, rfl⟩) fun vu s3 ⟨u, H3, I3, pu, eu, e3⟩ => ?_
  subst eu e3
  refine thn (hst.run pins s3 σ H3 (fun o H4 => o = some (-1) ∧ H4 = H3) I3 ⟨1, rfl, -1, rfl, rfl, rfl⟩) fun vs s4 ⟨o, H4, I4, ps, eo, e4⟩ => ?_
  subst eo e4
  have I5 : Inv X pins σ H4 { s4 with heap := s4.heap.push { cls := .type "slice", data := .fields #[vl, vu, vs] } } := I4.kept (t' := s4.toks) fun b ob q => Heap.get?_push_of_some _ q
  rcases q1 with q1 | q1
  · obtain ⟨a, xs, ex, hx, q⟩ := q1
    subst ex
    cases r1
    obtain ⟨its, r, ht, hz⟩ := I5.list hx
    show wpAny (model X.prog X.w) X.A (subscriptTail e (.Slice none none (some (.UnaryOp .USub (.Constant (.int 1) k p1) p2)) p3) (.ref a) (.ref s4.heap.objs.size)) (EP X pins σ Q) X.xe { s4 with heap := s4.heap.push { cls := .type "slice", data := .fields #[vl, vu, vs] } }
    have hlen := r.length
    refine tail_any (ops := [.ref a, .ref s4.heap.objs.size]) ht.isList.typeIs (PySem.slot_list_getitem.lookup) ?_ (by with_unfolding_all rfl)
    refine wpAny_getItem_list_slice ht.isList (Heap.IsSliceOf.new _ vl vu vs) pl pu ps (by decide) ?_ (by rw [List.size_toArray]; omega)
    rw [PySem.W.krv_pick]
    refine ⟨.ref _, _, I5.laid (t' := s4.toks) (o := .lst xs.reverse) (fun b ob q => Heap.get?_push_of_some _ q) (Nat.le_refl _) ?_, rfl, q _ (I5.hok.fresh (Nat.le_refl _))⟩
    exact ⟨by rw [List.length_reverse]; exact hz, _, 0, r.reverse, Heap.get?_push_size _ rfl⟩
  · obtain ⟨a, xs, ex, hx, q⟩ := q1
    subst ex
    cases r1
    cases pl
    cases pu
    obtain ⟨its, r, ht, hz⟩ := I5.tuple hx
    have hlen : its.toArray.size = xs.length := by rw [List.size_toArray]; exact r.length.symm
    show wpAny (model X.prog X.w) X.A (subscriptTail e (.Slice none none (some (.UnaryOp .USub (.Constant (.int 1) k p1) p2)) p3) (.ref a) (.ref s4.heap.objs.size)) (EP X pins σ Q) X.xe { s4 with heap := s4.heap.push { cls := .type "slice", data := .fields #[.none, .none, vs] } }
    refine tail_any (ops := [.ref a, .ref s4.heap.objs.size]) ht.typeIs (PyProof.Rows.slot_tuple_getitem.lookup) ?_ (by with_unfolding_all rfl)
    refine getItem_tuple_rev ht (Heap.IsSliceOf.new _ .none .none vs) ps ?_ (by rw [hlen]; exact hz)
    refine ⟨.ref _, _, I5.laid (t' := s4.toks) (o := .tup xs.reverse) (fun b ob q => Heap.get?_push_of_some _ q) (Nat.le_refl _) ?_, rfl, q _ (I5.hok.fresh (Nat.le_refl _))⟩
    exact ⟨by rw [List.length_reverse]; exact hz, _, r.reverse, IsTup.new _ _⟩
def eRevA (fa : EF) : EF := fun ρ g => (fa ρ g).bind fun x g1 => match x with
  | .list xs => .ok (.list xs.reverse) g1
  | .tuple xs => .ok (.tuple xs.reverse) g1
  | _ => .bad
section
variable {X : Cx} {c : Ctx} {W : WX} {pos : Pos} {e : Expr} {fe : EF}
theorem d_revA {k : Nat} {p1 p2 p3 : Pos} (hK : c.K = X.K) (ha : DE X c W e fe) : DE X c W (.Subscript e (.Slice none none (some (.UnaryOp .USub (.Constant (.int 1) k p1) p2)) p3) pos) (eRevA fe) :=
  PE.imp (pe_revA ha) fun σ H Q ⟨F, ρ, g, s, h⟩ => ⟨F, ρ, g, s, PostG.bind s h fun x g1 v F1 H1 e1 s1 r1 h1 => by
    cases x with
    | list xs =>
      obtain ⟨p, vs, rfl, q1, q2⟩ := r1.list
      exact .inl ⟨p, vs, rfl, by rw [← hK]; exact SqL.of (s1.fh _ _ q1), fun q n => h1.newList s1 n q2.rev⟩
    | tuple xs =>
      obtain ⟨p, vs, rfl, q1, q2⟩ := r1.tuple
      exact .inr ⟨p, vs, rfl, by rw [← hK]; exact seqT_mono s1.fh q1, fun q n => h1.newTup s1 n q2.rev⟩
    | _ => exact h1.elim⟩
end
theorem eRevA_ap (fa : EF) (ρ : RS) (g : G) : eRevA fa ρ g = (fa ρ g).bind fun x g1 => match x with
  | .list xs => .ok (.list xs.reverse) g1
  | .tuple xs => .ok (.tuple xs.reverse) g1
  | _ => .bad := Eq.trans rfl rfl
end DL
namespace DL
open PySem
open PySem.Spec
open PyProof.Rows
open L2
theorem tup_once (l : Addr) (items : Array Value) (n : Nat)
    (dd : Option Addr) (sl : Array (Option Value)) (u : Tok)
    (c1 : (items.isEmpty || (1 : Int) == 1) = true) :
    Meets (Builtin.«tuple.__mul__» ⟨[.ref l, .int 1 u], []⟩)
      (fun _ R s => s.heap.get? l = some { cls := .type "tuple", dict := dd, data := .seq items n, slots := sl } ∧
        R (.ok (.ret (Value.ref l))) s) :=
  .of_wp fun prog w A R s h => by
    obtain ⟨hp, g, d, tk, os⟩ := s
    obtain ⟨hl, h⟩ := h
    have f1 := AutoSeq1.idx_int
    wp_walk using wpAny_loadPart' hl
    repeat (first
      | (refine wpAny_ite_false (by decide) ?_; wp_walk using wpAny_loadPart' hl)
      | (refine wpAny_ite_true c1 ?_; wp_walk using wpAny_loadPart' hl))
    exact ⟨_, rfl, h⟩
def rOnceT (K : PySem.W.Frag) : R2 := fun x y H Q =>
  ∃ l xs, x = .ref l ∧ y = .int 1 ∧ SqT K H l xs ∧ xs ≠ [] ∧ Q (.ref l) H
section
variable {X : Cx}
theorem op_onceT : OpR X (binaryOp .Mult) (rOnceT X.K) := by
  intro pins s σ H x y v u Q I rx ry h
  obtain ⟨l, xs, rfl, rfl, hT, hne, q⟩ := h
  cases rx
  obtain ⟨t, rfl⟩ := ry
  obtain ⟨its, r, ⟨⟨cls, dd, data, sl⟩, ho, hc, n, hd⟩, hs⟩ := I.tuple hT
  simp only at hc hd
  subst hc hd
  have c1 : (its.toArray.isEmpty || (1 : Int) == 1) = true := Bool.or_true _
  have hq : ∃ v' H', L2.RelV v' (.ref l) ∧ True := ⟨.ref l, H, rfl, trivial⟩
  refine wpAny_binaryOp_repeat_ref (T := "tuple") (U := "int") (by decide)
    ⟨_, ho, rfl⟩ (fun s' => typeIs_int s' 1 t) noFill_tuple_mul F.fills_int_mul
    F.slot_int_rmul repeat_tuple F.slot_int_index.lookup
    (call_meets F.slot_int_rmul (typeIs_int s 1 t) F.entry_int_rmul
      (F.args_int_rmul_2 _ _) (int_rmul_tuple 1 t l its.toArray n dd sl)
      ⟨ho, rfl, ⟨_, ho, rfl⟩,
        call_meets F.slot_tuple_mul ⟨_, ho, rfl⟩ F.entry_tuple_mul
          (F.args_tuple_mul_2 _ _) (tup_once l its.toArray n dd sl t c1) ⟨ho, ?_⟩⟩)
  exact ⟨.ref l, H, I, rfl, q⟩
end
def rMulT (K : PySem.W.Frag) : R2 := fun x y H Q => rOnceT K x y H Q ∨ rRepT K x y H Q
theorem op_mulT {X : Cx} : OpR X (binaryOp .Mult) (rMulT X.K) := op_onceT.or op_repT
def opMulT (x y : D) (g : G) : Out D := match x, y with
  | .tuple xs, .int k => if 1 ≤ k ∧ k ≤ 1000 ∧ 1 ≤ xs.length ∧ xs.length ≤ 1000 then .ok (.tuple (List.replicate k.toNat xs).flatten) g else .bad
  | _, _ => .bad
section
variable {X : Cx} {c : Ctx} {W : WX} {pos : Pos} {a b : Expr} {fa fb : EF}
theorem k_mulT : Keeps2 c W (rMulT c.K) opMulT := by
  intro σ ρ g F H x y dx dy Q s rx ry h
  unfold opMulT at h
  split at h
  · rename_i xs k
    obtain ⟨l, vs, rfl, h1, h2⟩ := rx.tuple
    cases ry.int
    obtain ⟨⟨k1, k2, k3, k4⟩, h⟩ := h.ite
    have hne : vs ≠ [] := fun e => by
      have := h2.len
      rw [e, List.length_nil] at this
      omega
    by_cases e1 : k = 1
    · subst e1
      have er : (List.replicate (1 : Int).toNat xs).flatten = xs := by
        show (List.replicate 1 xs).flatten = xs
        rw [List.replicate_one, List.flatten_cons, List.flatten_nil, List.append_nil]
      rw [er] at h
      exact .inl ⟨l, vs, rfl, rfl, seqT_mono s.fh h1, hne, h.now s rx⟩
    · exact .inr ⟨l, k, vs, rfl, rfl, seqT_mono s.fh h1, hne, by omega, k2, by rw [h2.len]; exact k4, fun p n => h.newTup s n (h2.rep _)⟩
  · exact h.elim
theorem d_mulT (hK : c.K = X.K) (ha : DE X c W a fa) (hb : DE X c W b fb) : DE X c W (.BinOp a .Mult b pos) (eBin opMulT fa fb) := d_bin op_mulT (by rw [← hK]; exact k_mulT) ha hb
end
def rSumA (K : PySem.W.Frag) : List V → Hp → VK → Prop := fun vs H Q =>
  ∃ (a : Addr) (ns : List Int), vs = [V.ref a] ∧ (SqL K H a (ns.map V.int) ∨ SqT K H a (ns.map V.int)) ∧ Q (.int ns.sum) H
theorem cr_sumA {X : Cx} (hc : X.calm = true) : CallR X (.builtin "sum") (rSumA X.K) := by
  intro pins s σ H vs us Q I r h
  obtain ⟨a, ns, rfl, hs, q⟩ := h
  rw [Vals.ref1 r]
  rcases hs with hs | hs
  · obtain ⟨its, rv, hl, _⟩ := I.list hs
    exact sum_raw (I.ok.hd hc) hl.isList rv.ints
      fun h' tk t' hk => ⟨.int _, H, I.kept hk, ⟨_, rfl⟩, q⟩
  · obtain ⟨its, rv, hl, _⟩ := I.tuple hs
    have hi := rv.ints
    obtain ⟨xs, e⟩ := hi.allInts.items
    have hn : numsOf (intItems xs).toList = ns := by
      rw [← e]
      exact hi.numsOf
    rw [nums_intItems] at hn
    rw [e] at hl
    refine PySem.W.ktm_sumG (I.ok.hd hc) hl fun h' tk t' hk => ?_
    rw [preSum_eq, List.take_of_length_le (by simp), hn]
    exact ⟨.int _, H, I.kept hk, ⟨_, rfl⟩, q⟩
def bSumA (ds : List D) (g : G) : Out D := match ds with
  | [.list xs] => match asInts xs with
    | some ns => .ok (.int ns.sum) g
    | none => .bad
  | [.tuple xs] => match asInts xs with
    | some ns => .ok (.int ns.sum) g
    | none => .bad
  | _ => .bad
section
variable {c : Ctx} {W : WX}
theorem rq_ints {K : PySem.W.Frag} {F : Hp} : ∀ {vs : List V} {ns : List Int}, RqAll K F vs (ns.map PyData.int) → vs = ns.map V.int
  | _, [], h => by cases h; rfl
  | _, n :: ns, h => by
    cases h with
    | cons h1 h2 =>
      cases h1
      rw [rq_ints h2]
      rfl
theorem kl_sumA : KeepsL c W (rSumA c.K) bSumA := by
  intro σ ρ g F H vs ds Q s r h
  unfold bSumA at h
  split at h
  · split at h
    · rename_i ns hn
      obtain ⟨v, rfl, rv⟩ := rep1 r
      rw [asInts_of hn] at rv
      obtain ⟨a, rfl, h1⟩ := rv.ints
      exact ⟨a, ns, rfl, .inl (SqL.of (s.fh _ _ h1)), h.now s rInt⟩
    · exact h.elim
  · split at h
    · rename_i ns hn
      obtain ⟨v, rfl, rv⟩ := rep1 r
      rw [asInts_of hn] at rv
      obtain ⟨a, ws, rfl, h1, h2⟩ := rv.tuple
      rw [rq_ints h2] at h1
      exact ⟨a, ns, rfl, .inr (seqT_mono s.fh h1), h.now s rInt⟩
    · exact h.elim
  · exact h.elim
end
theorem bSumA_tup {l : List Int} {g : G} : bSumA [.tuple (l.map PyData.int)] g = .ok (.int l.sum) g := by
  show (match asInts (l.map PyData.int) with | some ns => Out.ok (PyData.int ns.sum) g | none => .bad) = _
  rw [asInts_map]
end DL
namespace DL
open PySem
open PySem.Spec
open PyProof.Rows
open L2
section
variable {X : Cx} {c : Ctx} {W : WX} {pos p : Pos} {x : Str} {e : Expr}
theorem d_call0 {k : Nat} {f : Addr} {fd : FuncData} {ps : List Str} {m : List D → G → Out D} (hK : c.K = X.K) (Fn : FnD X.prog X.w X.K X.mg X.base c.cl k f fd ps m) (hr : Room k X.A) (hg : Gl X x) (hm : X.mg x = some (.ref f)) (hk : PySem.W.keepIn X.K (.ref f) = true) (hb : Binds X.K fd ps []) (tk : Takes X W)
    (hdb : (x == ("__debug__" : Str)) = false := by decide) :
    DE X c W (.Call (.Name x p) [] [] pos) (eCall m aNil) := by
  refine ⟨fun pins s σ H Q I ⟨F, ρ, g, sr, h⟩ => ?_⟩
  refine wpAny_Call_Name_kw (ld_glob I hg hm ?_ hdb)
  refine PySem.W.callWith_K0 I.kIn hk ?_
  have q : spD X.K c.cl m [] H Q (WE W σ) := by
    rw [← hK]
    exact sp_of (vs := []) (ds := []) sr .nil h
  exact run_fnS (us := []) Fn hr hb (passAt tk σ) I .nil q
def sPop (i : Nat) (b : BF) : SF := fun ρ g => match ρ[i]? with
  | some (.own xs) => match xs.getLast? with
    | some d => match b d (ρ.set i (.own xs.dropLast)) with
      | some ρ' => .nx ρ' g
      | none => .bad
    | none => .bad
  | _ => .bad
theorem RqAll.dropLast {K : PySem.W.Frag} {F : Hp} {vs : List V} {ds : List D} (h : RqAll K F vs ds) : RqAll K F vs.dropLast ds.dropLast := by
  rw [List.dropLast_eq_take, List.dropLast_eq_take, h.len]
  exact h.take _
theorem ds_pop {i : Nat} {tg : Expr} {is : List Nat} {b : BF} (he : PE X e (tBM0 X.K "list" rPop (tVar i))) (hg : DG X c is tg b) (hs : swapsWithSole [tg] e pos.line X.env = pure false := by rfl) (hw : swappedStores [tg] e X.env = pure none := by rfl)
    (h1 : (assignEach [tg] X.env).map (·.2) = [assign tg X.env] := by rfl) : DS X c W (.Assign [tg] e pos) (sPop i b) := PS.imp (ps_asg he hg hs hw h1) fun E σ H ⟨F, ρ, g, s, h⟩ => by
  unfold sPop at h
  split at h
  · rename_i xs hi
    split at h
    · rename_i d hd
      split at h
      · rename_i ρ' hb
        obtain ⟨a, vs, k1, k2, k3, k4, k5⟩ := s.own hi
        rw [List.getLast?_eq_getElem?] at hd
        obtain ⟨v, hv, rv⟩ := k3.get hd
        rw [← k3.len] at hv
        refine ⟨_, k1, .inl ⟨rfl, vs, SqL.of k2⟩, a, vs, v, rfl, rfl, k2, hv, ?_⟩
        have s2 := s.updO hi k1 k2 k4 k5 (RqAll.dropLast k3)
        exact ⟨F, _, g, d, ρ', s2, .inl rv, hb, fun σ2 s3 _ => h.nx' s3⟩
      · exact h.elim
    · exact h.elim
  · exact h.elim
end
end DL
namespace DL
open PySem
open PySem.Spec
open PyProof.Rows
open L2
section
variable {P : Program} {w : World} {A : Around} {E : Value → Shared → Prop} {s : Shared}
theorem call_set_listI {l : Addr} {items : Array Value} (ns : List Int) {Q : Value → Shared → Prop} (hh : A.handled = none) (hl : s.heap.IsList l items) (hit : IntsAre items.toList ns) (hb : ns.length + 1 < scanBound)
    (h : ∀ (h' : Heap) (tk c : Nat), SetR w h' s.heap.objs.size (fun j => decide (j ∈ ns)) c → c ≤ ns.length → (∀ b o, s.heap.get? b = some o → h'.get? b = some o) → Q (.ref s.heap.objs.size) { s with heap := h', toks := tk }) :
    wpAny (model P w) A (call (.type "set") [.ref l]) Q E s := by
  have hisz : items.size = ns.length := by
    have q := IntsAre.length hit
    rw [Array.length_toList] at q
    exact q
  obtain ⟨c, tl, hmro⟩ := F.called_set.mro
  have hmade := F.called_set.made
  have hsub := F.called_set.sub
  refine wpAny_call (codeAny_of_tree ?_)
  show wpAny _ _ (callAny (.type "set") _) _ _ _
  refine wpAny_pure ⟨Code.quiet_builtin _ (by decide +kernel), codeAny_builtin F.entry_type_call ?_⟩
  rw [Around.under_plain (weight_type_call_type "set" [.ref l] []) rfl]
  have h1 := F.called_set.notType
  have h2 := F.called_set.canCreate
  have hct := F.typeCall_set_1 (.ref l)
  repeat (any_goals (first | assumption | wp_step))
  refine codeAny_mono (code_set_led1 (.ref l) (E := E) (Q₁ := fun obj s₁ => obj = .ref s.heap.objs.size ∧ s₁ = { s with heap := s.heap.push { cls := .type "set", dict := none, data := .set #[] 0 (.fresh 0 0 (!w.params.followText "set-order")) } }) ⟨rfl, rfl⟩) fun r s₁ hr => ?_
  cases r with
  | error e => exact hr
  | ok fl =>
    cases fl with
    | ret obj =>
      obtain ⟨rfl, rfl⟩ := hr
      have hS : (s.heap.push { cls := .type "set", dict := none, data := .set #[] 0 (.fresh 0 0 (!w.params.followText "set-order")) }).get? s.heap.objs.size = some { cls := .type "set", dict := none, data := .set #[] 0 (.fresh 0 0 (!w.params.followText "set-order")) } := Heap.get?_push_size _ rfl
      have hT : Shared.TypeIs { s with heap := s.heap.push { cls := .type "set", dict := none, data := .set #[] 0 (.fresh 0 0 (!w.params.followText "set-order")) } } (.ref s.heap.objs.size) "set" := ⟨_, hS, rfl⟩
      have hli := F.called_set.init.lookup
      have hbi := F.called_set.init.bind (.ref s.heap.objs.size)
      repeat (any_goals (first | assumption | wp_step))
      refine codeAny_mono (codeAny_call_builtin (R := wants (fun r s₂ => r = .none ∧ ∃ h' tk c, s₂ = { s with heap := h', toks := tk } ∧ SetR w h' s.heap.objs.size (fun j => decide (j ∈ ns)) c ∧ c ≤ ns.length ∧
          (∀ b o, s.heap.get? b = some o → h'.get? b = some o)) E) F.called_set.init.plain F.entry_set_init (check_set_init_1 hT ?_)) fun r₂ s₂ hr₂ => ?_
      · obtain ⟨ol, hol, hcl, nl, hdl⟩ := hl
        obtain ⟨ocls, odict, odata, oslots⟩ := ol
        simp only at hcl hdl
        subst hcl; subst hdl
        have hol' : (s.heap.push { cls := .type "set", dict := none, data := .set #[] 0 (.fresh 0 0 (!w.params.followText "set-order")) }).get? l = some { cls := .type "list", dict := odict, data := .seq items nl, slots := oslots } := Heap.get?_push_of_some _ hol
        have hsls := F.sub_list_set
        have hslf := F.sub_list_frozenset
        have hne : (Value.type "list" == Value.type "dict") = false := by decide
        have hl1 : (s.heap.push { cls := .type "set", dict := none, data := .set #[] 0 (.fresh 0 0 (!w.params.followText "set-order")) }).IsList l items := ⟨_, hol', rfl, nl, rfl⟩
        unfold Builtin.«set.__init__» noKeywords Builtin.Frozenset.updateFrom
        generalize hPI : pyIter = PI
        wp_walk
        subst hPI
        refine wpAny_pyIter_list hl1 ?_
        refine wpAny_bind (wpAny_runValue ?_)
        have hlS : l < s.heap.objs.size := Heap.lt_size hol
        have hh3 : A.in1.in1.in1.handled = none := by simp [hh]
        have hz1 : (s.heap.push { cls := .type "set", dict := none, data := .set #[] 0 (.fresh 0 0 (!w.params.followText "set-order")) }).objs.size = s.heap.objs.size + 1 := Heap.size_push ..
        have hneI : l ≠ (s.heap.push { cls := .type "set", dict := none, data := .set #[] 0 (.fresh 0 0 (!w.params.followText "set-order")) }).objs.size := by
          rw [Heap.size_push]; exact Nat.ne_of_lt (Nat.lt_succ_of_lt hlS)
        have hSf : s.heap.objs.size ∉ [(s.heap.push { cls := .type "set", dict := none, data := .set #[] 0 (.fresh 0 0 (!w.params.followText "set-order")) }).objs.size, l] := by
          rw [Heap.size_push]; simp only [List.mem_cons, List.mem_singleton, List.not_mem_nil, or_false, not_or]
          exact ⟨Nat.ne_of_lt (Nat.lt_succ_self _), Nat.ne_of_gt hlS⟩
        have hval : ∀ (i : Nat) (v : Value), items[i]? = some v → ∃ k t, ns[i]? = some k ∧ v = .int k t := fun i v hv => by
          have hi : i < ns.length := by rw [← hisz]; exact (Array.getElem?_eq_some_iff.mp hv).1
          obtain ⟨t, e⟩ := PyProof.Rows.IntsAre.int_at hit i v (by rw [Array.getElem?_toList]; exact hv)
          refine ⟨ns[i], t, List.getElem?_eq_getElem hi, ?_⟩
          rw [e, List.getD_eq_getElem?_getD, List.getElem?_eq_getElem hi] <;> rfl
        refine set_update_ints ((Walks.list hh3 _ l hneI items).toS) s.heap.objs.size
          hSf ns hisz hb hval (items.size - 0) 0 _ (by omega) (Nat.zero_le _)
          ⟨⟨_, Heap.get?_push_size _ rfl, rfl, rfl⟩, (hl1.push _)⟩ ?hS0 ?hR
        case hS0 =>
          have hget : ((s.heap.push { cls := .type "set", dict := none, data := .set #[] 0 (.fresh 0 0 (!w.params.followText "set-order")) }).push { cls := .type "list_iterator", data := .fields #[.ref l, .int 0 0] }).get? s.heap.objs.size
              = some { cls := .type "set", dict := none, data := .set #[] 0 (.fresh 0 0 (!w.params.followText "set-order")) } := Heap.get?_push_of_some _ hS
          exact ⟨0, Nat.le_refl 0, setR_new_at hget⟩
        case hR =>
          intro s' c' hm hc' hS'
          obtain ⟨h', g2, d', tk', os'⟩ := s'
          have eg : g2 = s.gens := hm.gens
          have ed : d' = s.drawn := hm.drawn
          have eo : os' = s.os := hm.os
          subst eg; subst ed; subst eo
          show wpAny _ _ _ _ _ _
          refine wpAny_pure ?_
          show wpAny _ _ (ret Value.none) _ _ _
          rw [hisz] at hc'
          refine wpAny_pure ⟨rfl, h', tk', c', rfl, hS', hc', fun b o e => ?_⟩
          have hb0 : b < s.heap.objs.size := Heap.lt_size e
          have hb1 : b ≠ s.heap.objs.size := Nat.ne_of_lt hb0
          have hb2 : b ≠ (s.heap.push { cls := .type "set", dict := none, data := .set #[] 0 (.fresh 0 0 (!w.params.followText "set-order")) }).objs.size := by
            rw [Heap.size_push]; exact Nat.ne_of_lt (Nat.lt_succ_of_lt hb0)
          exact hm.heap b o (by simp only [List.mem_cons, List.mem_singleton, List.not_mem_nil, or_false, not_or]; exact ⟨hb1, hb2⟩) (Heap.get?_push_of_some _ (Heap.get?_push_of_some _ e))
      · cases r₂ with
        | error e => exact hr₂
        | ok fl₂ =>
          cases fl₂ with
          | ret r =>
            obtain ⟨rfl, h', tk, c', rfl, hS', hc', hk'⟩ := hr₂
            repeat (any_goals (first | assumption | wp_step))
            exact h _ _ _ hS' hc' hk'
          | _ => exact hr₂.elim
    | _ => exact hr.elim
end
theorem nodup_le : ∀ (l L : List Int), l.Nodup → (∀ k ∈ l, k ∈ L) → l.length ≤ L.length
  | [], _, _, _ => Nat.zero_le _
  | x :: l, L, h, hL => by
    obtain ⟨h1, h2⟩ := List.nodup_cons.mp h
    have hx := hL x List.mem_cons_self
    have ih := nodup_le l (L.erase x) h2 fun k hk => (List.mem_erase_of_ne (fun e => h1 (by rw [← e]; exact hk))).mpr (hL k (List.mem_cons_of_mem _ hk))
    rw [List.length_erase_of_mem hx] at ih
    have := List.length_pos_of_mem hx
    show l.length + 1 ≤ L.length
    omega
theorem setR_le {w : World} {h : Heap} {a : Addr} {S : Int → Bool} {n : Nat} (R : SetR w h a S n) (L : List Int) (hL : ∀ k, S k = true → k ∈ L) : n ≤ L.length := by
  obtain ⟨o, es, ep, t, ho, hx, hd, g, nd, hm, hb, hf, hn, _⟩ := R
  have h1 : (es.toList.map keyOf).length ≤ L.length := nodup_le _ L nd fun k hk => hL k ((hm k).mpr hk)
  rw [List.length_map, Array.length_toList, hn] at h1
  exact h1
def rSetI (K : PySem.W.Frag) (w : World) : List V → Hp → VK → Prop := fun vs H Q => ∃ (l : Addr) (ns : List Int), vs = [V.ref l] ∧ SqL K H l (ns.map V.int) ∧ ns.length + 1 < scanBound ∧
  ∀ (p : Addr) (n : Nat), H p = none → (∀ L : List Int, (∀ k ∈ ns, k ∈ L) → n ≤ L.length) → Q (.ref p) (upd H p (SetO w p (fun j => decide (j ∈ ns)) n))
section
variable {X : Cx}
theorem cr_setI (hc : X.calm = true) : CallR X (.type "set") (rSetI X.K X.w) := by
  intro pins s σ H xs us Q I r h
  obtain ⟨l, ns, rfl, hl, hf, q⟩ := h
  rw [Vals.ref1 r]
  obtain ⟨its, rv, pl, hz⟩ := I.list hl
  have hn : H s.heap.objs.size = none := I.hok.fresh (Nat.le_refl _)
  refine call_set_listI (P := X.prog) (w := X.w) ns (I.ok.hd hc) pl.isList (by simpa using rv.ints) hf fun h' tk c R hle k => ?_
  exact ⟨.ref s.heap.objs.size, upd H s.heap.objs.size (SetO X.w s.heap.objs.size (fun j => decide (j ∈ ns)) c), I.laid (t' := tk) k (Nat.le_refl _) (setO_new R), rfl, q _ c hn fun L hL => setR_le R L fun k hk => hL k (of_decide_eq_true hk)⟩
end
def insU (x : Int) : List Int → List Int
  | [] => [x]
  | y :: r => if x < y then x :: y :: r else if x = y then y :: r else y :: insU x r
def sortU : List Int → List Int
  | [] => []
  | x :: r => insU x (sortU r)
theorem insU_mem {x z : Int} : ∀ l : List Int, z ∈ insU x l ↔ z = x ∨ z ∈ l
  | [] => by unfold insU; simp
  | y :: r => by
    unfold insU
    split
    · rw [List.mem_cons]
    · split
      · rename_i h1 h2
        subst h2
        rw [List.mem_cons]
        constructor
        · exact fun h => .inr h
        · exact fun h => h.elim (fun e => .inl e) id
      · rw [List.mem_cons, insU_mem r, List.mem_cons]
        constructor
        · rintro (h | h | h)
          · exact .inr (.inl h)
          · exact .inl h
          · exact .inr (.inr h)
        · rintro (h | h | h)
          · exact .inr (.inl h)
          · exact .inl h
          · exact .inr (.inr h)
theorem sortU_mem {z : Int} : ∀ l : List Int, z ∈ sortU l ↔ z ∈ l
  | [] => Iff.rfl
  | x :: r => by
    show z ∈ insU x (sortU r) ↔ _
    rw [insU_mem, sortU_mem r, List.mem_cons]
theorem insU_asc {x : Int} : ∀ l : List Int, l.Pairwise (· < ·) → (insU x l).Pairwise (· < ·)
  | [], _ => by unfold insU; simp
  | y :: r, h => by
    obtain ⟨h1, h2⟩ := List.pairwise_cons.mp h
    unfold insU
    split
    · rename_i c
      refine List.pairwise_cons.mpr ⟨fun z hz => ?_, h⟩
      rcases List.mem_cons.mp hz with rfl | hz
      · exact c
      · have := h1 z hz
        omega
    · split
      · exact h
      · refine List.pairwise_cons.mpr ⟨fun z hz => ?_, insU_asc r h2⟩
        rcases (insU_mem r).mp hz with rfl | hz
        · omega
        · exact h1 z hz
theorem sortU_asc : ∀ l : List Int, (sortU l).Pairwise (· < ·)
  | [] => .nil
  | x :: r => insU_asc _ (sortU_asc r)
theorem ascU_uniq : ∀ {l m : List Int}, l.Pairwise (· < ·) → m.Pairwise (· < ·) → (∀ z, z ∈ l ↔ z ∈ m) → l = m
  | [], [], _, _, _ => rfl
  | [], y :: _, _, _, h => absurd ((h y).mpr List.mem_cons_self) (by simp)
  | x :: _, [], _, _, h => absurd ((h x).mp List.mem_cons_self) (by simp)
  | x :: l, y :: m, h1, h2, h => by
    obtain ⟨a1, a2⟩ := List.pairwise_cons.mp h1
    obtain ⟨b1, b2⟩ := List.pairwise_cons.mp h2
    have e : x = y := by
      have p := (h x).mp List.mem_cons_self
      have q := (h y).mpr List.mem_cons_self
      rcases List.mem_cons.mp p with p | p
      · exact p
      · rcases List.mem_cons.mp q with q | q
        · exact q.symm
        · have := b1 x p
          have := a1 y q
          omega
    subst e
    rw [ascU_uniq a2 b2 fun z => by
      constructor
      · intro hz
        rcases List.mem_cons.mp ((h z).mp (List.mem_cons_of_mem _ hz)) with e | e
        · have := a1 z hz
          omega
        · exact e
      · intro hz
        rcases List.mem_cons.mp ((h z).mpr (List.mem_cons_of_mem _ hz)) with e | e
        · have := b1 z hz
          omega
        · exact e]
def bSortSet (ds : List D) (g : G) : Out D := match ds with
  | [.list xs] => match asInts xs with
    | some ns => if ns.length ≤ 4000 ∧ (sortU ns).length < 64 then .ok (.list ((sortU ns).map .int)) g else .bad
    | none => .bad
  | _ => .bad
section
variable {X : Cx} {c : Ctx} {W : WX} {pos p p2 q : Pos} {a : Expr} {fs : AF}
theorem d_sortSet (hc : X.calm = true) (hK : c.K = X.K) (hg : Gl X "sorted") (hm : X.mg "sorted" = none) (hg2 : Gl X "set") (hm2 : X.mg "set" = none) (ha : DA X c W [a] fs)
    (he : starEach [a] X.env = (false, eval a X.env) :: starEach [] X.env := by rfl) (hpl : (backTo q (starEach [] X.env)).any (·.1) = false := by rfl)
    (he2 : starEach [.Call (.Name "set" p2) [a] [] q] X.env = (false, eval (.Call (.Name "set" p2) [a] [] q) X.env) :: starEach [] X.env := by rfl) (hpl2 : (backTo pos (starEach [] X.env)).any (·.1) = false := by rfl) :
    DE X c W (.Call (.Name "sorted" p) [.Call (.Name "set" p2) [a] [] q] [] pos) (eCall bSortSet fs) :=
  PE.imp (pe_callB (cr_sortedSet hc) hg hm (by decide +kernel) (pa_cons (pe_callTy (cr_setI hc) hg2 hm2 (by decide +kernel) ha (by decide) (by decide) he hpl) pa_nil) (by decide) (by decide) he2 hpl2) fun σ H Q ⟨F, ρ, g, s, h⟩ => ⟨F, ρ, g, s, PostG.bind s h fun ds g1 vs F1 H1 e1 s1 r1 h1 => by
    unfold bSortSet at h1
    split at h1
    · split at h1
      · rename_i xs ns hns
        obtain ⟨v, rfl, rv⟩ := rep1 r1
        rw [asInts_of hns] at rv
        obtain ⟨l, rfl, h2⟩ := rv.ints
        obtain ⟨⟨k1, k2⟩, h1⟩ := h1.ite
        rw [← hK]
        refine ⟨l, ns, rfl, SqL.of (s1.fh _ _ h2), by unfold scanBound; omega, fun pp n hp hn => ?_⟩
        have hn64 : n < 64 := Nat.lt_of_le_of_lt (hn (sortU ns) fun k hk => (sortU_mem ns).mpr hk) k2
        refine ⟨pp, fun j => decide (j ∈ ns), n, rfl, upd_same, hn64, fun ms p' hs hm hl hp' => ?_⟩
        have e : ms = sortU ns := ascU_uniq hs (sortU_asc ns) fun z => by rw [sortU_mem, hm z, decide_eq_true_iff]
        subst e
        have E2 := Ext.newM (sa := c.sa) (sb := c.sb) s1.fh hp (o := SetO X.w pp (fun j => decide (j ∈ ns)) n)
        have s2 := s1.ext' E2 (s1.gok.newM hp)
        exact (h1.up E2).newList s2 hp' (dpInts (sortU ns))
      · exact h1.elim
    · exact h1.elim⟩
end
end DL
namespace DL
open PySem
open PySem.Spec
open PyProof.Rows
open L2
section
variable {X : Cx}
theorem maxL_of : ∀ (ns : List Int) (n : Int), PySem.W.maxOf n ns = maxL n ns
  | [], _ => rfl
  | y :: ns, n => by
    show PySem.W.maxOf (if (decide (n < y)) = true then y else n) ns = maxL (if y > n then y else n) ns
    rw [maxL_of ns]
    congr 1
    by_cases h : n < y
    · rw [if_pos (decide_eq_true h), if_pos h]
    · rw [if_neg (by rw [decide_eq_false h]; decide), if_neg h]
def rMaxA (K : PySem.W.Frag) : List V → Hp → VK → Prop := fun vs H Q => rMax K vs H Q ∨ ∃ (a : Addr) (n : Int) (ns : List Int), vs = [V.ref a] ∧ SqT K H a ((n :: ns).map V.int) ∧ Q (.int (maxL n ns)) H
theorem cr_maxA (hc : X.calm = true) (hu : X.A.units + 100 < cLine) : CallR X (.builtin "max") (rMaxA X.K) := by
  intro pins s σ H vs us Q I r h
  rcases h with h | h
  · exact cr_max hc pins s σ H vs us Q I r h
  obtain ⟨a, n, ns, rfl, hs, q⟩ := h
  obtain ⟨its, rv, hl, _⟩ := I.tuple hs
  rw [Vals.ref1 r]
  refine PySem.W.max_tuple_datum (α := Int) (x := n) (xs := ns) (I.ok.hd hc) hl (PySem.W.HoldAll.of_ints rv.ints) (by show X.A.units + 1 + 0 < _; omega) fun i v h' tk hi hh hk => ?_
  obtain ⟨t, rfl⟩ := PySem.W.int_of_holds hh
  rw [maxL_of]
  exact ⟨.int _, H, I.kept hk, ⟨_, rfl⟩, q⟩
end
section
variable {c : Ctx} {W : WX}
def bMaxA (ds : List D) (g : G) : Out D := match ds with
  | [.list xs] => match asInts xs with
    | some (n :: ns) => .ok (.int (maxL n ns)) g
    | _ => .bad
  | [.tuple xs] => match asInts xs with
    | some (n :: ns) => .ok (.int (maxL n ns)) g
    | _ => .bad
  | _ => .bad
theorem kl_maxA : KeepsL c W (rMaxA c.K) bMaxA := by
  intro σ ρ g F H vs ds Q s r h
  unfold bMaxA at h
  split at h
  · rename_i xs
    exact .inl (kl_max σ ρ g F H vs [.list xs] Q s r h)
  · split at h
    · rename_i n ns hn
      obtain ⟨v, rfl, rv⟩ := rep1 r
      rw [asInts_of hn] at rv
      obtain ⟨a, ws, rfl, h1, h2⟩ := rv.tuple
      rw [RqAll.ints h2] at h1
      exact .inr ⟨a, n, ns, rfl, seqT_mono s.fh h1, h.now s rInt⟩
    · exact h.elim
  · exact h.elim
end
theorem cr_range2 {X : Cx} : CallR X (.type "range") (fun vs H Q => ∃ i j, vs = [V.int i, V.int j] ∧ ∀ p, H p = none → Q (.ref p) (upd H p (.rng i j))) := by
  intro pins s σ H vs us Q I r h
  obtain ⟨i, j, rfl, q⟩ := h
  cases r with
  | cons r1 r2 =>
    obtain ⟨u, rfl, ru⟩ := vals1 r2
    obtain ⟨t1, rfl⟩ := r1
    obtain ⟨t2, rfl⟩ := ru
    refine call_range_2 ⟨.ref s.heap.objs.size, upd H s.heap.objs.size (.rng i j), I.laid (t' := s.toks + 1) (fun b o e => Heap.get?_push_of_some _ e) (Nat.le_refl _) ?_, rfl, q _ (I.hok.fresh (Nat.le_refl _))⟩
    exact ⟨t1, t2, s.toks, Heap.get?_push_size _ rfl⟩
def bRng2 (ds : List D) (g : G) : Out D := match ds with
  | [.int i, .int j] => .ok (rngD i j) g
  | _ => .bad
theorem kl_rng2 {c : Ctx} {W : WX} : KeepsL c W (fun vs H Q => ∃ i j, vs = [V.int i, V.int j] ∧ ∀ p, H p = none → Q (.ref p) (upd H p (.rng i j))) bRng2 := by
  intro σ ρ g F H vs ds Q s r h
  unfold bRng2 at h
  split at h
  · obtain ⟨v, v', rfl, rv, rv'⟩ := rep2 r
    cases rv.int
    cases rv'.int
    exact ⟨_, _, rfl, fun p n => h _ _ _ (Ext.new s.fh n) (s.gok.new n) (repRng upd_same)⟩
  · exact h.elim
end DL
namespace DL
open PySem
open PySem.Spec
open PyProof.Rows
open L2
def asP2 : List D → Option (List (Int × Int))
  | [] => some []
  | .tuple [.int x, .int y] :: r => (asP2 r).map fun ps => (x, y) :: ps
  | _ => none
def dP2 (p : Int × Int) : D := .tuple [.int p.1, .int p.2]
theorem asP2_of : ∀ {ds : List D} {ps : List (Int × Int)}, asP2 ds = some ps → ds = ps.map dP2 := by
  intro ds
  induction ds with
  | nil => intro ps h; cases h; rfl
  | cons d r ih =>
    intro ps h
    unfold asP2 at h
    split at h
    · cases h
      rename_i e
      cases e
    · rename_i x y r' e
      cases e
      obtain ⟨qs, hq, rfl⟩ := Option.map_eq_some_iff.mp h
      rw [ih hq]
      rfl
    · cases h
abbrev cd2 (p : Int × Int) : Int := p.1 * 64 + p.2
def ok2 (ps : List (Int × Int)) : Bool := ps.all fun p => decide (0 ≤ p.1 ∧ p.1 < 64 ∧ 0 ≤ p.2 ∧ p.2 < 64)
theorem pair_refs {K : PySem.W.Frag} {c : Ctx} {F : Hp} (hK : c.K = K) : ∀ {vs : List V} {ps : List (Int × Int)}, RqAll c.K F vs (ps.map dP2) → ∃ ks : List (Addr × List Int), vs = ks.map (fun p => V.ref p.1) ∧ (∀ p ∈ ks, SqT K F p.1 (p.2.map V.int)) ∧ ks.map (·.2) = ps.map fun p => [p.1, p.2]
  | _, [], .nil => ⟨[], rfl, (by intro p hp; cases hp), rfl⟩
  | _, p :: ps, .cons h t => by
    obtain ⟨ks, h1, h2, h3⟩ := pair_refs hK t
    obtain ⟨a, ws, rfl, q1, q2⟩ := Rep.tuple (c := c) (.inl h)
    have e : ws = [p.1, p.2].map V.int := RqAll.ints (ns := [p.1, p.2]) q2
    subst e
    rw [hK] at q1
    exact ⟨(a, [p.1, p.2]) :: ks, by rw [h1]; rfl, fun q hq => by
      rcases List.mem_cons.mp hq with rfl | hq
      · exact q1
      · exact h2 q hq, by rw [List.map_cons, h3]; rfl⟩
theorem refs_pair {K : PySem.W.Frag} {F : Hp} : ∀ (ks : List (Addr × List Int)), (∀ p ∈ ks, SqT K F p.1 (p.2.map V.int)) → RqAll K F (ks.map fun p => V.ref p.1) (ks.map fun p => .tuple (p.2.map PyData.int))
  | [], _ => .nil
  | p :: ks, h => .cons (.tup (h p List.mem_cons_self) (dpInts p.2)) (refs_pair ks fun q hq => h q (List.mem_cons_of_mem _ hq))
theorem code2 (x y : Int) : TS.code 64 [x, y] = x * 64 + y := code_pair x y
theorem sets_of {ks L : List (Addr × List Int)} {ps : List (Int × Int)} (h3 : ks.map (·.2) = ps.map fun p => [p.1, p.2]) (a1 : ∀ p ∈ L, p ∈ ks) (a2 : ∀ p ∈ ks, p.2 ∈ L.map (·.2)) : (∀ q ∈ L, ∃ p ∈ ps, q.2 = [p.1, p.2]) ∧ ∀ p ∈ ps, ∃ q ∈ L, q.2 = [p.1, p.2] := by
  refine ⟨fun q hq => ?_, fun p hp => ?_⟩
  · have : q.2 ∈ ks.map (·.2) := List.mem_map.mpr ⟨q, a1 q hq, rfl⟩
    rw [h3] at this
    obtain ⟨p, hp, e⟩ := List.mem_map.mp this
    exact ⟨p, hp, e.symm⟩
  · have : [p.1, p.2] ∈ ks.map (·.2) := by rw [h3]; exact List.mem_map.mpr ⟨p, hp, rfl⟩
    obtain ⟨k, hk, e⟩ := List.mem_map.mp this
    obtain ⟨q, hq, e2⟩ := List.mem_map.mp (a2 k hk)
    exact ⟨q, hq, by rw [e2]; exact e⟩
def dec2 (n : Int) : D := .tuple [.int (n / 64), .int (n % 64)]
def bSortSetP (ds : List D) (g : G) : Out D := match ds with
  | [.list xs] => match asP2 xs with
    | some ps => if ps.length < 64 ∧ ok2 ps = true then .ok (.list ((sortU (ps.map cd2)).map dec2)) g else .bad
    | none => .bad
  | _ => .bad
theorem ok2_at {ps : List (Int × Int)} (h : ok2 ps = true) {p : Int × Int} (hp : p ∈ ps) : 0 ≤ p.1 ∧ p.1 < 64 ∧ 0 ≤ p.2 ∧ p.2 < 64 := of_decide_eq_true (List.all_eq_true.mp h p hp)
theorem sorted_out {L' : List (Addr × List Int)} {ps : List (Int × Int)} (hok : ok2 ps = true) (b1 : ∀ q ∈ L', ∃ p ∈ ps, q.2 = [p.1, p.2]) (b2 : ∀ p ∈ ps, ∃ q ∈ L', q.2 = [p.1, p.2]) (nd : (L'.map (·.2)).Nodup) (pw : L'.Pairwise fun q r => TS.code 64 q.2 ≤ TS.code 64 r.2) : (L'.map fun q => PyData.tuple (q.2.map PyData.int)) = (sortU (ps.map cd2)).map dec2 := by
  have e1 : L'.map (fun q => TS.code 64 q.2) = sortU (ps.map cd2) := by
    refine ascU_uniq ?_ (sortU_asc _) fun z => ?_
    · rw [List.pairwise_map]
      rw [List.nodup_iff_pairwise_ne, List.pairwise_map] at nd
      refine List.Pairwise.imp_of_mem (fun {q r} hq hr h => ?_) (pw.and nd)
      obtain ⟨h1, h2⟩ := h
      obtain ⟨p, hp, e⟩ := b1 q hq
      obtain ⟨p', hp', e'⟩ := b1 r hr
      have o1 := ok2_at hok hp
      have o2 := ok2_at hok hp'
      rw [e, e', code2, code2] at h1
      show TS.code 64 q.2 < TS.code 64 r.2
      rw [e, e', code2, code2]
      have : ¬ p.1 * 64 + p.2 = p'.1 * 64 + p'.2 := fun z => h2 (by
        rw [e, e', show p.1 = p'.1 by omega, show p.2 = p'.2 by omega])
      omega
    · rw [sortU_mem]
      constructor
      · intro h
        obtain ⟨q, hq, rfl⟩ := List.mem_map.mp h
        obtain ⟨p, hp, e⟩ := b1 q hq
        exact List.mem_map.mpr ⟨p, hp, by rw [e, code2]⟩
      · intro h
        obtain ⟨p, hp, rfl⟩ := List.mem_map.mp h
        obtain ⟨q, hq, e⟩ := b2 p hp
        exact List.mem_map.mpr ⟨q, hq, by rw [e, code2]⟩
  rw [← e1, List.map_map]
  refine List.map_congr_left fun q hq => ?_
  obtain ⟨p, hp, e⟩ := b1 q hq
  have o1 := ok2_at hok hp
  show PyData.tuple (q.2.map PyData.int) = dec2 (TS.code 64 q.2)
  rw [e, code2]
  unfold dec2
  rw [show (p.1 * 64 + p.2) / 64 = p.1 by omega, show (p.1 * 64 + p.2) % 64 = p.2 by omega]
  rfl
section
variable {X : Cx} {c : Ctx} {W : WX} {pos p p2 q : Pos} {a : Expr} {fs : AF}
theorem d_sortSetP (hc : X.calm = true) (hu : X.A.units + 100 < cLine) (hK : c.K = X.K) (hg : Gl X "sorted") (hm : X.mg "sorted" = none) (hg2 : Gl X "set") (hm2 : X.mg "set" = none) (ha : DA X c W [a] fs)
    (he : starEach [a] X.env = (false, eval a X.env) :: starEach [] X.env := by rfl) (hpl : (backTo q (starEach [] X.env)).any (·.1) = false := by rfl)
    (he2 : starEach [.Call (.Name "set" p2) [a] [] q] X.env = (false, eval (.Call (.Name "set" p2) [a] [] q) X.env) :: starEach [] X.env := by rfl) (hpl2 : (backTo pos (starEach [] X.env)).any (·.1) = false := by rfl) :
    DE X c W (.Call (.Name "sorted" p) [.Call (.Name "set" p2) [a] [] q] [] pos) (eCall bSortSetP fs) :=
  PE.imp (pe_callB (cr_sortedT hc) hg hm (by decide +kernel) (pa_cons (pe_callTy (cr_setOfT hc (by omega)) hg2 hm2 (by decide +kernel) ha (by decide) (by decide) he hpl) pa_nil) (by decide) (by decide) he2 hpl2) fun σ H Q ⟨F, ρ, g, s, h⟩ => ⟨F, ρ, g, s, PostG.bind s h fun ds g1 vs F1 H1 e1 s1 r1 h1 => by
    unfold bSortSetP at h1
    split at h1
    · split at h1
      · rename_i xs ps hps
        obtain ⟨⟨k1, k2⟩, h1⟩ := h1.ite
        obtain ⟨v, rfl, rv⟩ := rep1 r1
        obtain ⟨l, ws, rfl, q1, q2⟩ := rv.list
        rw [asP2_of hps] at q2
        obtain ⟨ks, rfl, hks, h3⟩ := pair_refs hK q2
        have hlen : ks.length = ps.length := by
          have := congrArg List.length h3
          rwa [List.length_map, List.length_map] at this
        refine ⟨l, ks, rfl, SqL.of (s1.fh _ _ q1), fun z hz => seqT_mono s1.fh (hks z hz), by omega, fun pp L hp a1 a2 => ?_⟩
        obtain ⟨b1, b2⟩ := sets_of h3 a1 a2
        have E2 := Ext.newM (sa := c.sa) (sb := c.sb) s1.fh hp (o := SetTO X.prog X.w pp L)
        have s2 := s1.ext' E2 (s1.gok.newM hp)
        refine ⟨pp, L, 2, 64, rfl, upd_same, fun z hz => seqT_mono s2.fh (hks z (a1 z hz)), by decide, fun z hz => ?_, fun L' p' pm nd few pw hp' => ?_⟩
        · obtain ⟨y, hy, e⟩ := b1 z hz
          have o1 := ok2_at k2 hy
          rw [e]
          refine ⟨rfl, fun m hm => ?_⟩
          rcases List.mem_cons.mp hm with rfl | hm
          · exact ⟨o1.1, o1.2.1⟩
          · rw [List.mem_singleton.mp hm]
            exact ⟨o1.2.2.1, o1.2.2.2⟩
        · have r3 := refs_pair (K := X.K) (F := F1) L' fun z hz => hks z (a1 z (pm.mem_iff.mp hz))
          rw [sorted_out k2 (fun z hz => b1 z (pm.mem_iff.mp hz)) (fun z hz => by
            obtain ⟨y, hy, e⟩ := b2 z hz
            exact ⟨y, pm.mem_iff.mpr hy, e⟩) nd pw, ← hK] at r3
          exact (h1.up E2).newList s2 hp' r3
      · exact h1.elim
    · exact h1.elim⟩
end
def rLenSetT (K : PySem.W.Frag) (P : Program) (w : World) : List V → Hp → VK → Prop := fun vs H Q => ∃ (a : Addr) (L : List (Addr × List Int)), vs = [V.ref a] ∧ H a = some (SetTO P w a L) ∧ (∀ p ∈ L, SqT K H p.1 (p.2.map V.int)) ∧ ((L.map (·.2)).Nodup → Q (.int (L.length : Nat)) H)
theorem cr_lenSetT {X : Cx} : CallR X (.builtin "len") (rLenSetT X.K X.prog X.w) := by
  intro pins s σ H vs us Q I r h
  obtain ⟨a, L, rfl, ha, hk, q⟩ := h
  have R0 : SetT0 X.prog X.w s.heap a L := (I.hok a _ ha).1
  obtain ⟨es, ep, t, R⟩ := R0.full fun p hp => I.isT (hk p hp)
  obtain ⟨o, ho, hex, hd⟩ := R.ob
  have hsz : es.size = L.length := by
    have h := congrArg List.length R.rows
    unfold rowsOf at h
    rw [Array.length_toList, List.length_map] at h
    exact h
  have few := R.few
  rw [Vals.ref1 r]
  refine call_len_set ho hex hd (SetTR.fits (s := s) R) (by omega) ⟨.int (L.length : Nat), H, I.tok _, ⟨_, by rw [hsz]⟩, q R.nd⟩
def bLenSetP (ds : List D) (g : G) : Out D := match ds with
  | [.list xs] => match asP2 xs with
    | some ps => if ps.length < 64 ∧ ok2 ps = true then .ok (.int ((sortU (ps.map cd2)).length : Nat)) g else .bad
    | none => .bad
  | _ => .bad
theorem nodup_len {l m : List Int} (h1 : l.Nodup) (h2 : m.Nodup) (h : ∀ z, z ∈ l ↔ z ∈ m) : l.length = m.length :=
  Nat.le_antisymm (nodup_le l m h1 fun k hk => (h k).mp hk) (nodup_le m l h2 fun k hk => (h k).mpr hk)
theorem len_out {L : List (Addr × List Int)} {ps : List (Int × Int)} (hok : ok2 ps = true) (b1 : ∀ q ∈ L, ∃ p ∈ ps, q.2 = [p.1, p.2]) (b2 : ∀ p ∈ ps, ∃ q ∈ L, q.2 = [p.1, p.2]) (nd : (L.map (·.2)).Nodup) : L.length = (sortU (ps.map cd2)).length := by
  have e : (L.map fun q => TS.code 64 q.2).length = (sortU (ps.map cd2)).length := by
    refine nodup_len ?_ ((sortU_asc _).imp fun h => by omega) fun z => ?_
    · rw [List.nodup_iff_pairwise_ne, List.pairwise_map] at nd ⊢
      refine List.Pairwise.imp_of_mem (fun {q r} hq hr h => ?_) nd
      obtain ⟨p, hp, e⟩ := b1 q hq
      obtain ⟨p', hp', e'⟩ := b1 r hr
      have o1 := ok2_at hok hp
      have o2 := ok2_at hok hp'
      intro h1
      rw [e, e', code2, code2] at h1
      exact h (by rw [e, e', show p.1 = p'.1 by omega, show p.2 = p'.2 by omega])
    · rw [sortU_mem]
      constructor
      · intro h
        obtain ⟨q, hq, rfl⟩ := List.mem_map.mp h
        obtain ⟨p, hp, e⟩ := b1 q hq
        exact List.mem_map.mpr ⟨p, hp, by rw [e, code2]⟩
      · intro h
        obtain ⟨p, hp, rfl⟩ := List.mem_map.mp h
        obtain ⟨q, hq, e⟩ := b2 p hp
        exact List.mem_map.mpr ⟨q, hq, by rw [e, code2]⟩
  rwa [List.length_map] at e
section
variable {X : Cx} {c : Ctx} {W : WX} {pos p p2 q : Pos} {a : Expr} {fs : AF}
theorem d_lenSetP (hc : X.calm = true) (hu : X.A.units + 100 < cLine) (hK : c.K = X.K) (hg : Gl X "len") (hm : X.mg "len" = none) (hg2 : Gl X "set") (hm2 : X.mg "set" = none) (ha : DA X c W [a] fs)
    (he : starEach [a] X.env = (false, eval a X.env) :: starEach [] X.env := by rfl) (hpl : (backTo q (starEach [] X.env)).any (·.1) = false := by rfl)
    (he2 : starEach [.Call (.Name "set" p2) [a] [] q] X.env = (false, eval (.Call (.Name "set" p2) [a] [] q) X.env) :: starEach [] X.env := by rfl) (hpl2 : (backTo pos (starEach [] X.env)).any (·.1) = false := by rfl) :
    DE X c W (.Call (.Name "len" p) [.Call (.Name "set" p2) [a] [] q] [] pos) (eCall bLenSetP fs) :=
  PE.imp (pe_callB cr_lenSetT hg hm (by decide +kernel) (pa_cons (pe_callTy (cr_setOfT hc (by omega)) hg2 hm2 (by decide +kernel) ha (by decide) (by decide) he hpl) pa_nil) (by decide) (by decide) he2 hpl2) fun σ H Q ⟨F, ρ, g, s, h⟩ => ⟨F, ρ, g, s, PostG.bind s h fun ds g1 vs F1 H1 e1 s1 r1 h1 => by
    unfold bLenSetP at h1
    split at h1
    · split at h1
      · rename_i xs ps hps
        obtain ⟨⟨k1, k2⟩, h1⟩ := h1.ite
        obtain ⟨v, rfl, rv⟩ := rep1 r1
        obtain ⟨l, ws, rfl, q1, q2⟩ := rv.list
        rw [asP2_of hps] at q2
        obtain ⟨ks, rfl, hks, h3⟩ := pair_refs hK q2
        have hlen : ks.length = ps.length := by
          have := congrArg List.length h3
          rwa [List.length_map, List.length_map] at this
        refine ⟨l, ks, rfl, SqL.of (s1.fh _ _ q1), fun z hz => seqT_mono s1.fh (hks z hz), by omega, fun pp L hp a1 a2 => ?_⟩
        obtain ⟨b1, b2⟩ := sets_of h3 a1 a2
        have E2 := Ext.newM (sa := c.sa) (sb := c.sb) s1.fh hp (o := SetTO X.prog X.w pp L)
        have s2 := s1.ext' E2 (s1.gok.newM hp)
        refine ⟨pp, L, rfl, upd_same, fun z hz => seqT_mono s2.fh (hks z (a1 z hz)), fun nd => ?_⟩
        rw [len_out k2 b1 b2 nd]
        exact (h1.up E2).now s2 rInt
      · exact h1.elim
    · exact h1.elim⟩
end
end DL
namespace DL
open PySem
open PySem.Spec
open PyProof.Rows
open L2
def iOwn (i : Nat) : LF := fun ρ g => match ρ[i]? with
  | some (.own xs) => .ok xs g
  | _ => .bad
section
variable {X : Cx} {c : Ctx} {W : WX} {pos p : Pos} {tg iter elt e : Expr} {ifs : List Expr} {scope : Scope} {own : List (Str × Nat)} {fi : LF} {b : BF} {ft : TF} {fe : EF}
theorem lc_postX {σ : L2.St} {ρ : RS} {items : List D} {vs is : List Nat} {F1 H1 : Hp} {g1 : G} {W : WX} {Q : VK} {J : It} {A : Addr} (s1 : SR c F1 H1 σ ρ g1) (hJ : ∀ (i : Nat) (F H : Hp), Ext c.sa c.sb F1 H1 F H → (∀ d, items[i]? = some d → J.go i H ∧ ∀ x H', J.yld i H x H' → H' = H ∧ Rep c F x d) ∧ (items.length ≤ i → J.stop i H)) (hl : items.length ≤ LIM) (nA : H1 A = none) (sub : ∀ i ∈ is, i ∈ vs)
    (h : PostO c σ (compF b ft fe (wipeR ρ vs) items g1) F1 H1 W Q) :
    ∃ Wv : Nat → Nat → Hp → Prop, (∃ m, Wv 0 m (upd H1 A (.lst []))) ∧ ∀ i m H, Wv i m H → (J.stop i H ∧ Q (.ref A) H) ∨ (J.go i H ∧ ∃ Nx : Hp → Prop, (∀ H', Nx H' → ∃ m', m' < m ∧ Wv (i + 1) m' H') ∧ ∀ x H', J.yld i H x H' → tG c is b x (wipe σ vs) H' fun σ2 H2 => wipe σ2 vs = wipe σ vs ∧ tT c W0 ft σ2 H2 fun k H3 =>
      if k = true then tE c W0 fe σ2 H3 fun y H4 => ∃ acc, H4 A = some (.lst acc) ∧ acc.length < sizeLine ∧ Nx (upd H4 A (.lst (acc ++ [y]))) else Nx H3) := by
  refine ⟨fun i m H => ∃ F g va acc, m = items.length - i ∧ i ≤ items.length ∧ acc.length ≤ i ∧ Mid c F1 H1 F H g A acc (compF b ft fe (wipeR ρ vs) items g1) (compF b ft fe (wipeR ρ vs) (items.drop i) g) va,
    ⟨items.length, F1, g1, [], [], by omega, Nat.zero_le _, Nat.zero_le _, Ext.newM s1.fh nA, s1.gok.newM nA, upd_same, s1.fnone nA, .nil, ?_⟩, ?_⟩
  · rw [List.drop_zero]
    cases compF b ft fe (wipeR ρ vs) items g1 <;> rfl
  rintro i m H ⟨F, g, va, acc, rfl, hi, hacc, M⟩
  have sm : Same F1 H := M.ext.f.trans M.ext.fh
  by_cases hlt : i < items.length
  · have hd : items[i]? = some items[i] := List.getElem?_eq_getElem hlt
    have hdr : items.drop i = items[i] :: items.drop (i + 1) := List.drop_eq_getElem_cons hlt
    obtain ⟨go, yl⟩ := (hJ i F H M.ext).1 _ hd
    have eq := M.eq
    rw [hdr] at eq
    refine .inr ⟨go, _, fun H' h => h, fun x H' y => ?_⟩
    obtain ⟨rfl, rx⟩ := yl x H' y
    have sw : SR c F H' (wipe σ vs) (wipeR ρ vs) g := (s1.wipe vs).ext' M.ext M.gok
    have nas : A ≠ c.sa := (ne_of_none s1.gok.ha nA).symm
    have nab : A ≠ c.sb := (ne_of_none s1.gok.hb nA).symm
    simp only [compF] at eq
    cases hb : b items[i] (wipeR ρ vs) with
    | none => simp only [hb, Out.bind] at eq; rw [eq] at h; exact h.elim
    | some ρ1 =>
      simp only [hb] at eq
      refine ⟨F, wipeR ρ vs, g, items[i], ρ1, sw, rx, hb, fun σ2 s2 b2 => ⟨b2.wipe sub, F, ρ1, g, s2, ?_⟩⟩
      cases ht : ft ρ1 g with
      | bad => simp only [ht, Out.bind] at eq; rw [eq] at h; exact h.elim
      | exc n fs g2 => simp only [ht, Out.bind] at eq; rw [eq] at h; exact h.elim
      | ok k g2 =>
        intro k' F2 H2 e2 gk2 rk
        cases rk
        have s3 := s2.ext' e2 gk2
        have hA2 : H2 A = some (.lst va) := e2.keep A _ M.ha nas nab
        have fA2 : F2 A = none := by rw [e2.ff A _ M.ha]; exact M.fa
        cases k with
        | false =>
          simp only [ht] at eq
          rw [if_neg Bool.false_ne_true]
          exact ⟨items.length - (i + 1), by omega, F2, g2, va, acc, rfl, hlt, by omega, M.ext.trans e2, gk2, hA2, fA2, RqAll_mono e2.f _ _ M.rq, eq⟩
        | true =>
          simp only [ht] at eq
          rw [if_pos rfl]
          refine ⟨F2, ρ1, g2, s3, ?_⟩
          cases he : fe ρ1 g2 with
          | bad => simp only [he, Out.bind] at eq; rw [eq] at h; exact h.elim
          | exc n fs g3 => simp only [he, Out.bind] at eq; rw [eq] at h; exact h.elim
          | ok d g3 =>
            simp only [he] at eq
            intro y F3 H3 e3 gk3 ry
            have hA3 : H3 A = some (.lst va) := e3.keep A _ hA2 nas nab
            have fA3 : F3 A = none := by rw [e3.ff A _ hA2]; exact fA2
            by_cases hn : noTok [d] = true
            · rw [if_pos hn] at eq
              refine ⟨va, hA3, lim_lt (by rw [M.rq.len]; omega), items.length - (i + 1), by omega, F3, g3, va ++ [y], acc ++ [d], rfl, hlt, by rw [List.length_append, List.length_singleton]; omega, ?_, ?_, upd_same, fA3, ?_, ?_⟩
              · have e4 := (M.ext.trans e2).trans e3
                refine ⟨e4.f, fun q o z => ?_, fun q o z n m => ?_, fun q o z => ?_, e4.ff⟩
                · rw [upd_ne (ne_of_none z fA3)]; exact e4.fh q o z
                · rw [upd_ne (ne_of_none z nA)]; exact e4.keep q o z n m
                · rw [upd_ne (ne_of_none z nA)]; exact e4.dom q o z
              · exact gk3.ext rfl rfl (upd_ne nas.symm) (upd_ne nab.symm)
              · have rd := RepAll.rq (RepAll.cons ry .nil) hn
                exact (RqAll_mono (e2.f.trans e3.f) _ _ M.rq).append rd
              · rw [eq]
                cases compF b ft fe (wipeR ρ vs) (items.drop (i + 1)) g3 with
                | bad => rfl
                | exc n fs g4 => rfl
                | ok r g4 => simp only [Out.bind, List.append_assoc, List.singleton_append]
            · rw [if_neg hn] at eq
              simp only [Out.bind] at eq
              rw [eq] at h
              exact h.elim
  · have e : i = items.length := by omega
    have eq := M.eq
    rw [e, List.drop_length] at eq
    simp only [compF, Out.bind, List.append_nil] at eq
    rw [eq] at h
    exact .inl ⟨(hJ i F H M.ext).2 (by omega), h A va F H M.ext M.gok M.ha M.fa nA M.rq⟩
theorem lc_impW {is : List Nat} {j : Nat} (hK : c.K = X.K) (sub : ∀ i ∈ is, i ∈ own.map (·.2)) (σ : L2.St) (H : Hp) (Q : VK) (w : tEo c W (oComp (own.map (·.2)) (iOwn j) b ft fe) σ H Q) : tLc (iList X.K (tVar j)) (tG c is b) (tT c W0 ft) (tE c W0 fe) (own.map (·.2)) σ H Q := by
  obtain ⟨F, ρ, g, s, h⟩ := w
  unfold oComp iOwn at h
  cases q : ρ[j]? with
  | none => rw [q] at h; exact h.elim
  | some x =>
    rw [q] at h
    cases x with
    | own xs =>
      obtain ⟨hl, h⟩ := PostO.ite h
      obtain ⟨a, vs, k1, k2, k3, k4, k5⟩ := s.own q
      obtain ⟨n1, n2⟩ := s.ownNe k5
      refine ⟨_, k1, a, rfl, ⟨vs, SqL.of k2⟩, fun A nA => lc_postX (J := Itl X.K a) s (fun i F2 H2 e2 => ?_) hl nA sub h⟩
      have hs : SqL c.K H2 a vs := SqL.of (e2.keep _ _ k2 n1 n2)
      rw [hK] at hs
      refine ⟨fun d hd => ?_, fun hl => ⟨vs, hs, by rw [k3.len]; exact hl⟩⟩
      obtain ⟨v, hv, rv⟩ := k3.get hd
      refine ⟨⟨vs, v, hs, hv⟩, fun x H' y => ⟨y.1, ?_⟩⟩
      have := y.2 vs hs
      rw [hv] at this
      cases this
      exact (show Rep c F _ d from .inl rv).mono e2.f
    | _ => exact h.elim
theorem o_lcW {is : List Nat} {j : Nat} {n : Str} (hK : c.K = X.K) (hc : X.calm = true) (hN : X.N.Nodup) (hi : PE X (.Name n p) (tVar j)) (ok : BlkOk X.N X.env.scope scope own) (sub : ∀ i ∈ is, i ∈ own.map (·.2))
    (hg : ∀ (s : Shared) (H : Hp) (C : Addr) (cl : List (Str × Addr)) (fp : List Addr), DG (X.blk s H scope (compEnvC scope cl C X.env) fp) c is tg b) (ht : ∀ (s : Shared) (H : Hp) (C : Addr) (cl : List (Str × Addr)) (fp : List Addr), PTs (X.blk s H scope (compEnvC scope cl C X.env) fp) ifs (tT c W0 ft))
    (he : ∀ (s : Shared) (H : Hp) (C : Addr) (cl : List (Str × Addr)) (fp : List Addr), DE (X.blk s H scope (compEnvC scope cl C X.env) fp) c W0 elt fe) (hs : ∀ x, foldedSetIterable (.Name n p) X.env x = pure x := by intro _; rfl) :
    DEo X c W (.ListComp elt [⟨tg, .Name n p, ifs, 0⟩] scope pos) (oComp (own.map (·.2)) (iOwn j) b ft fe) :=
  PE.imp (pe_lc hc hN (pi_list hi) ok hg ht he hs) (lc_impW hK sub)
end
end DL
namespace DL
open PySem
open PySem.Spec
open PyProof.Rows
open L2
section
variable {prog : Program} {w : World} {A : Around} {E : Value → Shared → Prop} {s : Shared}
theorem sortedT_ofK {kw : List (Str × Value)} {l : Addr} {vs : List Value}
    {Q : Value → Shared → Prop} (hl : IsTup s.heap l vs.toArray)
    (hz : vs.length ≤ sizeLine)
    (ha1 : argsOk "sorted" ⟨[.ref l], kw⟩) (ha2 : ∀ x, argsOk "list.sort" ⟨[.ref x], kw⟩)
    (body : ∀ E' : Value → Shared → Prop,
      wpAny (model prog w) A.in1.in1
        (Builtin.«list.sort» ⟨[.ref (s.heap.objs.size + 1)], kw⟩)
        (fun f t => f = .done (.ret .none) ∧ Q (.ref (s.heap.objs.size + 1)) t)
        E' { s with heap := PySem.W.copyHeap s.heap vs }) :
    wpAny (model prog w) A
      (call (.builtin "sorted") [.ref l] kw) Q E s := by
  refine call_function_entry_kw kind_sorted
    plain_sorted entry_sorted ha1 ?_
  unfold Builtin.«sorted»
  refine wpAny_bind
    (m := checkCount "sorted" 1 1 _) (wpAny_pure ?_)
  refine wpAny_bind (collectT hl hz ?_)
  refine wpAny_bind (wpAny_newList ?_ hz)
  have hn : (oneCopy s.heap vs).objs.size = s.heap.objs.size + 1 := by
    unfold oneCopy
    dsimp only
    rw [Heap.size_update, size_push']
  show wpAny _ _ _ _ _
    { s with heap := PySem.W.copyHeap s.heap vs }
  rw [hn]
  refine wpAny_bind (wpAny_holding
    (wpAny_call_entry_kw slot_list_sort
      ⟨_, PySem.W.copyHeap_at s.heap vs, rfl⟩ entry_list_sort ?bd (ha2 _)))
  case bd =>
    show wpAny (model prog w) A.in1.in1
      (Builtin.«list.sort» ⟨[.ref (s.heap.objs.size + 1)], kw⟩) _ _ _
    refine wpAny_mono (body _)
      (fun f t ⟨e, q⟩ => ?_) fun _ _ e => e
    subst e
    exact ⟨_, rfl, wpAny_pure ⟨_, rfl, q⟩⟩
theorem sortedT_dataR {β : Type} {vs : List Value} {bs : List β} {enc : β → PyData}
    {R : Value → β → Prop} {l : Addr} {Q : Value → Shared → Prop}
    (hl : IsTup s.heap l vs.toArray) (e : PySem.W.EachIs R vs bs)
    (er : PySem.W.EachIs (fun v b => ∃ as, Reads s.heap v (enc b) as) vs bs)
    (hal : PySem.W.AllAlike (bs.map enc)) (hk : PySem.W.Sortable (bs.map enc))
    (hL : bs.length ≤ sizeLine)
    (hu : ∀ b, b ∈ bs → A.units + 2 + (enc b).depth < cLine)
    (h : ∀ out, out.length = bs.length →
      PySem.W.EachIs R out (bs.mergeSort (PySem.W.dataLe true enc)) →
      Q (.ref (s.heap.objs.size + 1)) { s with heap := sortedAll s.heap vs (List.toArray out) }) :
    wpAny (model prog w) A
      (call (.builtin "sorted") [.ref l] [(Str.ofString "reverse", .bool true)]) Q E s := by
  let hp := PySem.W.sortingHeap (PySem.W.copyHeap s.heap vs) (s.heap.objs.size + 1) vs
  have er2 : PySem.W.EachIs (fun v b => ∃ as, Reads hp v (enc b) as) vs bs :=
    er.mono fun _ _ ⟨as, r⟩ =>
      ⟨as, PyProof.Rows.Reads.keeps (fun _ _ => PySem.W.sorting_copy_old) r⟩
  have hz : vs.length ≤ sizeLine := by
    rw [e.length]
    exact hL
  have S := PySem.W.SortsAt.data (prog := prog) (w := w) (A := A.in1.in1) (s := { s with heap := hp })
    (PySem.W.each_map (R := fun v d => ∃ as, Reads hp v d as) enc er2) hal hk (PySem.W.bound_map hu)
  refine sortedT_ofK hl hz (PyProof.Rows.args_sorted_rev _ _) (fun _ => PyProof.Rows.args_list_sort_rev _ _) fun _ => PySem.W.list_sort_rev_vals
    (s := { s with heap := PySem.W.copyHeap s.heap vs })
    (PySem.W.copyHeap_at s.heap vs) S hz ⟨rfl, ?_⟩
  exact h _ (by
    rw [PySem.W.sortVals_length true rfl]
    exact e.length) (PySem.W.sortVals_data true e er2 hal)
theorem sorted_dataR {β : Type} {vs : List Value} {bs : List β} {enc : β → PyData} {R : Value → β → Prop} {l : Addr} {Q : Value → Shared → Prop} (hl : s.heap.IsList l vs.toArray) (e : PySem.W.EachIs R vs bs) (er : PySem.W.EachIs (fun v b => ∃ as, Reads s.heap v (enc b) as) vs bs) (hal : PySem.W.AllAlike (bs.map enc)) (hk : PySem.W.Sortable (bs.map enc)) (hL : bs.length ≤ sizeLine)
    (hu : ∀ b, b ∈ bs → A.units + 2 + (enc b).depth < cLine) (h : ∀ out, out.length = bs.length → PySem.W.EachIs R out (bs.mergeSort (PySem.W.dataLe true enc)) → Q (.ref (s.heap.objs.size + 1)) { s with heap := sortedAll s.heap vs (List.toArray out) }) :
    wpAny (model prog w) A (call (.builtin "sorted") [.ref l] [(Str.ofString "reverse", .bool true)]) Q E s := by
  let hp := PySem.W.sortingHeap (PySem.W.copyHeap s.heap vs) (s.heap.objs.size + 1) vs
  have er2 : PySem.W.EachIs (fun v b => ∃ as, Reads hp v (enc b) as) vs bs := er.mono fun _ _ ⟨as, r⟩ => ⟨as, PyProof.Rows.Reads.keeps (fun _ _ => PySem.W.sorting_copy_old) r⟩
  have hz : vs.length ≤ sizeLine := by
    rw [e.length]
    exact hL
  exact PySem.W.sorted_rev_vals hl (PySem.W.SortsAt.data (prog := prog) (w := w) (A := A.in1.in1) (s := { s with heap := hp }) (PySem.W.each_map (R := fun v d => ∃ as, Reads hp v d as) enc er2) hal hk (PySem.W.bound_map hu)) hz
    (h _ (by
      rw [PySem.W.sortVals_length true rfl]
      exact e.length) (PySem.W.sortVals_data true e er2 hal))
end
def rSortedDR (K : PySem.W.Frag) : List V → List V → Hp → VK → Prop := fun vs zs H Q => ∃ (a : Addr) (xs : List V) (ds : List D) (P : V → D → Prop), vs = [.ref a] ∧ zs = [.bl true] ∧ (SqL K H a xs ∨ SqT K H a xs) ∧ DpAll K H xs ds ∧ Paired P xs ds ∧ PySem.W.AllAlike ds ∧ PySem.W.Sortable ds ∧ (∀ d ∈ ds, d.depth ≤ 64) ∧
  ∀ (ys : List V) (p : Addr), Paired P ys (ds.mergeSort (PySem.W.dataLe true id)) → H p = none → Q (.ref p) (upd H p (.lst ys))
theorem cr_sortedDR {X : Cx} (hu : X.A.units + 100 < cLine) : CallRK X (.builtin "sorted") [Str.ofString "reverse"] (rSortedDR X.K) := by
  intro pins s σ H vs zs us ws Q I r rz h
  obtain ⟨a, xs, ds, P, rfl, rfl, hs, hd, hp, hal, hso, hdp, q⟩ := h
  obtain ⟨u, rfl, ru⟩ := vals1 r
  obtain rfl : u = Value.ref a := ru
  obtain ⟨w1, rfl, e1⟩ := vals1 rz
  obtain rfl : w1 = Value.bool true := e1
  have inv : ∃ its : List Value, Vals xs its ∧ (s.heap.IsList a its.toArray ∨ IsTup s.heap a its.toArray) ∧ xs.length ≤ sizeLine := by
    rcases hs with hs | hs
    · obtain ⟨its, rv, hl, hz⟩ := I.list hs
      exact ⟨its, rv, .inl hl.isList, hz⟩
    · obtain ⟨its, rv, hl, hz⟩ := I.tuple hs
      exact ⟨its, rv, .inr hl, hz⟩
  obtain ⟨its, rv, hl, hz⟩ := inv
  obtain ⟨as, hr⟩ := Dp.readsAll I ds xs its hd rv
  have hlen : ds.length = its.length := by rw [← hp.length]; exact rv.length
  have hr' : ReadsAll s.heap its (ds.map id) as := by rw [List.map_id]; exact hr
  have hbd : ∀ b, b ∈ ds → X.A.units + 2 + (id b : D).depth < cLine := fun b hb => by
    have := hdp b hb
    show X.A.units + 2 + PyData.depth b < cLine
    omega
  have hq : ∀ out : List Value, out.length = ds.length → PySem.W.EachIs (fun u d => ∃ x, L2.RelV x u ∧ P x d) out (ds.mergeSort (PySem.W.dataLe true id)) → EP X pins σ Q (.ref (s.heap.objs.size + 1)) { s with heap := sortedAll s.heap its (List.toArray out) } := fun out ho he => by
    obtain ⟨ys, h1, h2⟩ := of_each he
    obtain ⟨n, hn⟩ := sortedAll_at s.heap its out.toArray
    have kp : ∀ b o, s.heap.get? b = some o → (sortedAll s.heap its out.toArray).get? b = some o := fun b o e => sortedAll_old e
    refine ⟨.ref (s.heap.objs.size + 1), upd H (s.heap.objs.size + 1) (.lst ys), I.laid (t' := s.toks) kp (Nat.le_succ _) ⟨?_, out, n, h1, hn⟩, rfl, q ys _ h2 (I.hok.fresh (Nat.le_succ _))⟩
    rw [h1.length, ho, hlen, ← rv.length]
    exact hz
  rcases hl with hl | hl
  · exact sorted_dataR (β := D) (enc := id) (R := fun u d => ∃ x, L2.RelV x u ∧ P x d) hl (each_of rv hp) (PySem.W.readsAll_each id hr') (by rw [List.map_id]; exact hal) (by rw [List.map_id]; exact hso) (by rw [hlen, ← rv.length]; exact hz) hbd hq
  · exact sortedT_dataR (β := D) (enc := id) (R := fun u d => ∃ x, L2.RelV x u ∧ P x d) hl (each_of rv hp) (PySem.W.readsAll_each id hr') (by rw [List.map_id]; exact hal) (by rw [List.map_id]; exact hso) (by rw [hlen, ← rv.length]; exact hz) hbd hq
def insDR (x : D) : List D → List D
  | [] => [x]
  | y :: r => if PySem.W.dataLe true id x y = true then x :: y :: r else y :: insDR x r
def sortDR : List D → List D
  | [] => []
  | x :: r => insDR x (sortDR r)
theorem insD_midR {x : D} : ∀ {l1 l2 : List D}, (∀ b ∈ l1, PySem.W.dataLe true id x b = false) → (∀ y ∈ l2, PySem.W.dataLe true id x y = true) → insDR x (l1 ++ l2) = l1 ++ x :: l2
  | [], [], _, _ => rfl
  | [], y :: l2, _, h2 => by
    show (if PySem.W.dataLe true id x y = true then x :: y :: l2 else y :: insDR x l2) = x :: y :: l2
    rw [if_pos (h2 y List.mem_cons_self)]
  | b :: l1, l2, h1, h2 => by
    show (if PySem.W.dataLe true id x b = true then x :: b :: (l1 ++ l2) else b :: insDR x (l1 ++ l2)) = b :: (l1 ++ x :: l2)
    rw [if_neg (by rw [h1 b List.mem_cons_self]; decide), insD_midR (fun c hc => h1 c (List.mem_cons_of_mem _ hc)) h2]
theorem sortD_eqR : ∀ ds : List D, ds.mergeSort (PySem.W.dataLe true id) = sortDR ds
  | [] => by rw [List.mergeSort_nil]; rfl
  | x :: r => by
    have T : PySem.W.TotalLe (PySem.W.dataLe (β := D) true id) := PySem.W.sortLe_total _ _ _
    obtain ⟨l1, l2, e1, e2, e3⟩ := List.mergeSort_cons T.trans (fun a b => by have := T.total a b; simpa [Bool.or_eq_true] using this) x r
    have hp := PySem.W.sort_pairwise T (x :: r)
    rw [e1] at hp
    rw [e1]
    show _ = insDR x (sortDR r)
    rw [← sortD_eqR r, e2, insD_midR (fun b hb => by simpa using e3 b hb) fun y hy => ?_]
    exact (List.pairwise_cons.mp (List.pairwise_append.mp hp).2.1).1 y hy
def bSortR (ds : List D) (g : G) : Out D := match ds with
  | [.list xs] => if sortOk xs = true then .ok (.list (sortDR xs)) g else .bad
  | [.tuple xs] => if sortOk xs = true then .ok (.list (sortDR xs)) g else .bad
  | _ => .bad
section
variable {X : Cx} {c : Ctx} {W : WX} {pos p kp p2 q : Pos} {j : Nat} {e : Expr} {fs : AF}
theorem d_sortR (hu : X.A.units + 100 < cLine) (hK : c.K = X.K) (hg : Gl X "sorted") (hm : X.mg "sorted" = none) (hv : bootBuiltins "sorted" = some (.builtin "sorted")) (ha : DA X c W [e] fs)
    (he : backTo pos (starEach [e] X.env) = (false, eval e X.env) :: backTo pos (starEach [] X.env) := by rfl) (hpl : (backTo pos (starEach [e] X.env)).any (·.1) = false := by rfl)
    (hall : (backToKw pos (keywordEach [⟨some (Str.ofString "reverse"), .Constant (.bool true) j p2, kp⟩] X.env)).all (·.1.isSome) = true := by rfl) (hnone : (backToKw pos (keywordEach [⟨some (Str.ofString "reverse"), .Constant (.bool true) j p2, kp⟩] X.env)).any (·.1.isNone) = false := by rfl) (hks : (backToKw pos (keywordEach [⟨some (Str.ofString "reverse"), .Constant (.bool true) j p2, kp⟩] X.env)).filterMap (·.1) = [Str.ofString "reverse"] := by rfl) :
    DE X c W (.Call (.Name "sorted" p) [e] [⟨some (Str.ofString "reverse"), .Constant (.bool true) j p2, kp⟩] pos) (eCall bSortR fs) :=
  PE.imp (pe_callBK (cr_sortedDR hu) hg hm hv ha (pk_cons pe_bl pk_nil) (by decide) (by decide) he hpl hall hnone hks) fun σ H Q ⟨F, ρ, g, s, h⟩ => ⟨F, ρ, g, s, PostG.bind s h fun ds g1 vs F1 H1 e1 s1 r h => by
    unfold bSortR at h
    rw [← hK]
    split at h
    · rename_i xs
      obtain ⟨v, rfl, rv⟩ := rep1 r
      obtain ⟨hk, h⟩ := h.ite
      obtain ⟨h1, h2, h3⟩ := sortOk_all hk
      obtain ⟨a, ws, rfl, q1, q2⟩ := rv.list
      refine ⟨a, ws, xs, Rq c.K F1, rfl, rfl, .inl (SqL.of (s1.fh _ _ q1)), RqAll_dp _ _ (RqAll_mono s1.fh _ _ q2), rq_paired q2, h1, h2, h3, fun ys p hp hn => ?_⟩
      rw [sortD_eqR] at hp
      exact h.newList s1 hn (paired_rq hp)
    · rename_i xs
      obtain ⟨v, rfl, rv⟩ := rep1 r
      obtain ⟨hk, h⟩ := h.ite
      obtain ⟨h1, h2, h3⟩ := sortOk_all hk
      obtain ⟨a, ws, rfl, q1, q2⟩ := rv.tuple
      refine ⟨a, ws, xs, Rq c.K F1, rfl, rfl, .inr (seqT_mono s1.fh q1), RqAll_dp _ _ (RqAll_mono s1.fh _ _ q2), rq_paired q2, h1, h2, h3, fun ys p hp hn => ?_⟩
      rw [sortD_eqR] at hp
      exact h.newList s1 hn (paired_rq hp)
    · exact h.elim⟩
end
def rLenSetI (w : World) : List V → Hp → VK → Prop := fun vs H Q => ∃ (a : Addr) (ns : List Int) (n : Nat), vs = [V.ref a] ∧ H a = some (SetO w a (fun j => decide (j ∈ ns)) n) ∧ Q (.int ((sortU ns).length : Nat)) H
theorem cr_lenSetI {X : Cx} : CallR X (.builtin "len") (rLenSetI X.w) := by
  intro pins s σ H vs us Q I r h
  obtain ⟨a, ns, n, rfl, ha, q⟩ := h
  have R := setO_get I ha
  have R' := R
  obtain ⟨o, es, ep, t, ho, hx, hd, g, nd, hm, hb, hf, hn, _⟩ := R
  have h1 : n ≤ (sortU ns).length := setR_le R' (sortU ns) fun k hk => (sortU_mem ns).mpr (of_decide_eq_true hk)
  have h2 : (sortU ns).length ≤ n := by
    have := nodup_le (sortU ns) (es.toList.map keyOf) ((sortU_asc ns).imp fun h => by omega) fun k hk => (hm k).mp (decide_eq_true ((sortU_mem ns).mp hk))
    rw [List.length_map] at this
    rw [← hn, ← Array.length_toList]
    exact this
  rw [Vals.ref1 r]
  refine call_len_set ho hx hd hf (by unfold scanBound at hb; omega) ⟨.int ((sortU ns).length : Nat), H, I.tok _, ⟨_, by rw [hn, show n = (sortU ns).length by omega]⟩, q⟩
def bLenSet (ds : List D) (g : G) : Out D := match ds with
  | [.list xs] => match asInts xs with
    | some ns => if ns.length ≤ 4000 then .ok (.int ((sortU ns).length : Nat)) g else .bad
    | none => .bad
  | _ => .bad
section
variable {X : Cx} {c : Ctx} {W : WX} {pos p p2 q : Pos} {a : Expr} {fs : AF}
theorem d_lenSet (hc : X.calm = true) (hK : c.K = X.K) (hg : Gl X "len") (hm : X.mg "len" = none) (hg2 : Gl X "set") (hm2 : X.mg "set" = none) (ha : DA X c W [a] fs)
    (he : starEach [a] X.env = (false, eval a X.env) :: starEach [] X.env := by rfl) (hpl : (backTo q (starEach [] X.env)).any (·.1) = false := by rfl)
    (he2 : starEach [.Call (.Name "set" p2) [a] [] q] X.env = (false, eval (.Call (.Name "set" p2) [a] [] q) X.env) :: starEach [] X.env := by rfl) (hpl2 : (backTo pos (starEach [] X.env)).any (·.1) = false := by rfl) :
    DE X c W (.Call (.Name "len" p) [.Call (.Name "set" p2) [a] [] q] [] pos) (eCall bLenSet fs) :=
  PE.imp (pe_callB cr_lenSetI hg hm (by decide +kernel) (pa_cons (pe_callTy (cr_setI hc) hg2 hm2 (by decide +kernel) ha (by decide) (by decide) he hpl) pa_nil) (by decide) (by decide) he2 hpl2) fun σ H Q ⟨F, ρ, g, s, h⟩ => ⟨F, ρ, g, s, PostG.bind s h fun ds g1 vs F1 H1 e1 s1 r1 h1 => by
    unfold bLenSet at h1
    split at h1
    · split at h1
      · rename_i xs ns hns
        obtain ⟨v, rfl, rv⟩ := rep1 r1
        rw [asInts_of hns] at rv
        obtain ⟨l, rfl, h2⟩ := rv.ints
        obtain ⟨k1, h1⟩ := h1.ite
        rw [← hK]
        refine ⟨l, ns, rfl, SqL.of (s1.fh _ _ h2), by unfold scanBound; omega, fun pp n hp hn => ?_⟩
        refine ⟨pp, ns, n, rfl, upd_same, ?_⟩
        have E2 := Ext.newM (sa := c.sa) (sb := c.sb) s1.fh hp (o := SetO X.w pp (fun j => decide (j ∈ ns)) n)
        have s2 := s1.ext' E2 (s1.gok.newM hp)
        exact (h1.up E2).now s2 rInt
      · exact h1.elim
    · exact h1.elim⟩
end
section
variable {X : Cx}
theorem minL_of : ∀ (ns : List Int) (n : Int), PySem.W.minOf n ns = minL n ns
  | [], _ => rfl
  | y :: ns, n => by
    show PySem.W.minOf (if (decide (y < n)) = true then y else n) ns = minL (if y < n then y else n) ns
    rw [minL_of ns]
    congr 1
    by_cases h : y < n
    · rw [if_pos (decide_eq_true h), if_pos h]
    · rw [if_neg (by rw [decide_eq_false h]; decide), if_neg h]
def rMinA (K : PySem.W.Frag) : List V → Hp → VK → Prop := fun vs H Q => rMin K vs H Q ∨ ∃ (a : Addr) (n : Int) (ns : List Int), vs = [V.ref a] ∧ SqT K H a ((n :: ns).map V.int) ∧ Q (.int (minL n ns)) H
theorem cr_minA (hc : X.calm = true) (hu : X.A.units + 100 < cLine) : CallR X (.builtin "min") (rMinA X.K) := by
  intro pins s σ H vs us Q I r h
  rcases h with h | h
  · exact cr_min hc pins s σ H vs us Q I r h
  obtain ⟨a, n, ns, rfl, hs, q⟩ := h
  obtain ⟨its, rv, hl, _⟩ := I.tuple hs
  rw [Vals.ref1 r]
  refine PySem.W.min_tuple_datum (α := Int) (x := n) (xs := ns) (I.ok.hd hc) hl (PySem.W.HoldAll.of_ints rv.ints) (by show X.A.units + 1 + 0 < _; omega) fun i v h' tk hi hh hk => ?_
  obtain ⟨t, rfl⟩ := PySem.W.int_of_holds hh
  rw [minL_of]
  exact ⟨.int _, H, I.kept hk, ⟨_, rfl⟩, q⟩
end
section
variable {c : Ctx} {W : WX}
def bMinA (ds : List D) (g : G) : Out D := match ds with
  | [.list xs] => match asInts xs with
    | some (n :: ns) => .ok (.int (minL n ns)) g
    | _ => .bad
  | [.tuple xs] => match asInts xs with
    | some (n :: ns) => .ok (.int (minL n ns)) g
    | _ => .bad
  | _ => .bad
theorem kl_minA : KeepsL c W (rMinA c.K) bMinA := by
  intro σ ρ g F H vs ds Q s r h
  unfold bMinA at h
  split at h
  · rename_i xs
    exact .inl (kl_min σ ρ g F H vs [.list xs] Q s r h)
  · split at h
    · rename_i n ns hn
      obtain ⟨v, rfl, rv⟩ := rep1 r
      rw [asInts_of hn] at rv
      obtain ⟨a, ws, rfl, h1, h2⟩ := rv.tuple
      rw [RqAll.ints h2] at h1
      exact .inr ⟨a, n, ns, rfl, seqT_mono s.fh h1, h.now s rInt⟩
    · exact h.elim
  · exact h.elim
end
end DL
namespace DL
open PySem
open PySem.Spec
open PyProof.Rows
open L2
def chs (z : Str) : List D := z.cps.toList.map fun c => PyData.str ⟨#[c]⟩
def iStrS (fe : EF) : LF := fun ρ g => (fe ρ g).bind fun x g1 => match x with
  | .str z => .ok (chs z) g1
  | _ => .bad
section
variable {X : Cx} {c : Ctx} {W : WX} {pos p : Pos} {tg e : Expr} {fe : EF}
theorem iter_s {F : Hp} {z : Str} : IterR c F (Its z) (chs z) := fun i H sm => by
  refine ⟨fun d hd => ?_, fun hl => ?_⟩
  · unfold chs at hd
    rw [List.getElem?_map] at hd
    obtain ⟨c, hc, rfl⟩ := Option.map_eq_some_iff.mp hd
    rw [Array.getElem?_toList] at hc
    refine ⟨(Array.getElem?_eq_some_iff.mp hc).1, fun x H' y => ⟨y.1, ?_⟩⟩
    obtain ⟨c', h1, h2⟩ := y.2
    rw [hc] at h1
    cases h1
    rw [h2]
    exact rStr
  · unfold chs at hl
    rw [List.length_map, Array.length_toList] at hl
    exact hl
theorem di_str (ha : DE X c W e fe) : DI X c W tg e (iStrS fe) := PI.imp (pi_str ha) fun σ H R ⟨F, ρ, g, s, h⟩ => ⟨F, ρ, g, s, PostG.bind s h fun x g1 v F1 H1 e1 s1 r1 h1 => by
  cases x with
  | str z =>
    cases r1.str
    exact ⟨z, rfl, h1.now s1 iter_s⟩
  | _ => exact h1.elim⟩
end
def asStrs : List D → Option (List Str)
  | [] => some []
  | .str x :: r => (asStrs r).map fun ps => x :: ps
  | _ => none
theorem asStrs_of : ∀ {ds : List D} {ps : List Str}, asStrs ds = some ps → ds = ps.map .str := by
  intro ds
  induction ds with
  | nil => intro ps h; cases h; rfl
  | cons d r ih =>
    intro ps h
    unfold asStrs at h
    split at h
    · rename_i e
      cases e
    · rename_i x r' e
      cases e
      obtain ⟨qs, hq, rfl⟩ := Option.map_eq_some_iff.mp h
      rw [ih hq]
      rfl
    · cases h
theorem asStrs_map (ps : List Str) : asStrs (ps.map .str) = some ps := by
  induction ps with
  | nil => rfl
  | cons p ps ih => show (asStrs (ps.map .str)).map _ = _; rw [ih]; rfl
theorem RqAll.strs {K : PySem.W.Frag} {F : Hp} : ∀ {vs : List V} {ps : List Str}, RqAll K F vs (ps.map PyData.str) → vs = ps.map V.str
  | _, [], .nil => rfl
  | _, p :: ps, .cons h t => by
    cases h
    rw [RqAll.strs t]
    rfl
def opJoin (x y : D) (g : G) : Out D := match x, y with
  | .str a, .list ds => match asStrs ds with
    | some ys => if (ys.map (·.length)).sum + ys.length * a.length ≤ 16777216 then .ok (.str (Txt.join a ys)) g else .bad
    | none => .bad
  | _, _ => .bad
def eJoin (fo fe : EF) : EF := fun ρ g => (fo ρ g).bind fun x g1 => match x with
  | .str a => (fe ρ g1).bind fun y g2 => opJoin (.str a) y g2
  | _ => .bad
section
variable {X : Cx} {c : Ctx} {W : WX} {pos apos : Pos} {o e : Expr} {fo fe : EF}
theorem d_join (hK : c.K = X.K) (ho : DE X c W o fo) (he : DE X c W e fe) (hs : starEach [e] X.env = [(false, eval e X.env)] := by rfl) (hbase : attributeBase o "join" X.env (eval o X.env) = eval o X.env := by rfl) (hline : (apos.endLine == pos.line) = true := by rfl) :
    DE X c W (.Call (.Attribute o "join" apos) [e] [] pos) (eJoin fo fe) :=
  PE.imp (pe_join ho he hs hbase hline) fun σ H Q ⟨F, ρ, g, s, h⟩ => ⟨F, ρ, g, s, PostG.bind s h fun x g1 v F1 H1 e1 s1 r1 h1 => by
    cases x with
    | str a =>
      cases r1.str
      refine ⟨⟨a, rfl⟩, F1, ρ, g1, s1, PostG.bind s1 (o := fe ρ g1) (k := fun y g2 => opJoin (.str a) y g2) h1 fun y g2 u F2 H2 e2 s2 r2 h2 => ?_⟩
      unfold opJoin at h2
      split at h2
      · rename_i a' ds ea
        cases ea
        split at h2
        · rename_i ys hys
          obtain ⟨k1, h2⟩ := h2.ite
          obtain ⟨l, ws, rfl, q1, q2⟩ := r2.list
          rw [asStrs_of hys] at q2
          cases RqAll.strs q2
          exact ⟨a, l, ys, rfl, rfl, .inl (by rw [← hK]; exact SqL.of (s2.fh _ _ q1)), k1, h2.now s2 rStr⟩
        · exact h2.elim
      · exact h2.elim
    | _ => exact h1.elim⟩
end
def eInO (neg : Bool) (fa : EF) (i : Nat) : EF := fun ρ g => (fa ρ g).bind fun x g1 => match ρ[i]? with
  | some (.own xs) => if shp x = true ∧ shp (.list xs) = true then .ok (.bool (if neg then !(xs.any fun z => PyData.eqv z x) else xs.any fun z => PyData.eqv z x)) g1 else .bad
  | _ => .bad
def eNeO (i : Nat) (fb : EF) : EF := fun ρ g => match ρ[i]? with
  | some (.own xs) => (fb ρ g).bind fun y g1 => if shp (.list xs) = true ∧ shp y = true then .ok (.bool (!PyData.eqv (.list xs) y)) g1 else .bad
  | _ => .bad
section
variable {X : Cx} {c : Ctx} {W : WX} {pos : Pos} {a b : Expr} {fa fb : EF}
theorem SR.ownDp {F H : Hp} {σ : L2.St} {ρ : RS} {g : G} (s : SR c F H σ ρ g) {i : Nat} {xs : List D} (h : ρ[i]? = some (.own xs)) : ∃ a, σ[i]? = some (some (.ref a)) ∧ Dp c.K H (.ref a) (.list xs) := by
  obtain ⟨a, vs, k1, k2, k3, _⟩ := s.own h
  exact ⟨a, k1, Rq_dp _ _ (.lst k2 (RqAll_mono s.fh _ _ k3))⟩
theorem inO_imp {i : Nat} {σ : L2.St} {H : Hp} {Q : VK} (hK : c.K = X.K) (w : tE c W (eInO true fa i) σ H Q) : tOp (rNotInD X.K) (tE c W fa) (tVar i) σ H Q := by
  obtain ⟨F, ρ, g, s, h⟩ := w
  exact ⟨F, ρ, g, s, PostG.bind s h fun x g1 v F1 H1 e1 s1 r1 h1 => by
    split at h1
    · rename_i xs hi
      obtain ⟨⟨k1, k2⟩, h1⟩ := h1.ite
      obtain ⟨l, m1, m2⟩ := s1.ownDp hi
      refine ⟨_, m1, x, xs, ?_, by rw [← hK]; exact m2, k1, k2, h1.now s1 rBl⟩
      rw [← hK]
      exact Rq_dp _ _ (Rq_mono s1.fh _ _ (r1.rq (shp_tok k1)))
    · exact h1.elim⟩
theorem d_notInO {i : Nat} (hK : c.K = X.K) (hu : X.A.units + 65 < cLine) (ha : DE X c W a fa) (hb : PE X b (tVar i)) (hm : behindInMarks .NotIn b = false := by rfl) : DC X c W (.Compare a [.NotIn] [b] pos) (eInO true fa i) :=
  ⟨PE.imp (pe_cmpR (op_notInD hu) ha hb hm) fun σ H Q w => inO_imp hK w, PT.imp (pt_cmpR (op_notInD hu) ha hb hm) fun σ H Q w => inO_imp hK (val_imp w)⟩
theorem neO_imp {i : Nat} {σ : L2.St} {H : Hp} {Q : VK} (hK : c.K = X.K) (w : tE c W (eNeO i fb) σ H Q) : tOp (rNeD X.K) (tVar i) (tE c W fb) σ H Q := by
  obtain ⟨F, ρ, g, s, h⟩ := w
  unfold eNeO at h
  split at h
  · rename_i xs hi
    obtain ⟨l, m1, _⟩ := s.ownDp hi
    refine ⟨_, m1, F, ρ, g, s, PostG.bind s h fun y g1 v F1 H1 e1 s1 r1 h1 => ?_⟩
    obtain ⟨⟨k1, k2⟩, h1⟩ := h1.ite
    obtain ⟨l', m1', m2⟩ := s1.ownDp hi
    rw [m1] at m1'
    cases m1'
    refine ⟨.list xs, y, by rw [← hK]; exact m2, ?_, k1, k2, h1.now s1 rBl⟩
    rw [← hK]
    exact Rq_dp _ _ (Rq_mono s1.fh _ _ (r1.rq (shp_tok k2)))
  · exact h.elim
theorem d_neO {i : Nat} (hK : c.K = X.K) (hu : X.A.units + 65 < cLine) (ha : PE X a (tVar i)) (hb : DE X c W b fb) : DC X c W (.Compare a [.NotEq] [b] pos) (eNeO i fb) :=
  ⟨PE.imp (pe_cmpR (op_neD (by omega)) ha hb (nomark _)) fun σ H Q w => neO_imp hK w, PT.imp (pt_cmpR (op_neD (by omega)) ha hb (nomark _)) fun σ H Q w => neO_imp hK (val_imp w)⟩
end
end DL
namespace DL
open PySem
open PySem.Spec
open PyProof.Rows
open L2
def kI (k : List Int) : List L2.Key := k.map Sum.inl
def rw3 (x : List Int × Addr) : List L2.Key × Addr × Value := (kI x.1, x.2, .bool true)
theorem kI_inj {a b : List Int} : kI a = kI b ↔ a = b := inl_inj
theorem kI_V (k : List Int) : (kI k).map L2.kV = k.map V.int := by
  unfold kI
  rw [List.map_map]
  rfl
section
variable {P : Program} {w : World} {h : Heap} {a : Addr} {L : List (List Int × Addr)}
theorem row_eq (x : List Int × Addr) : entryOfKey (tupleKind (mixKind P w)) (rw3 x) = rowI x := by
  show (⟨tupleKeyHash (mixKind P w) (kI x.1), .ref x.2, .bool true⟩ : DictEntry) = ⟨hI x.1, .ref x.2, .bool true⟩
  have e : tupleKeyHash (mixKind P w) (kI x.1) = hI x.1 := by
    unfold tupleKeyHash hI kI
    rw [List.map_map]
    rfl
  rw [e]
theorem rows_eq (L : List (List Int × Addr)) : (L.map rw3).map (entryOfKey (tupleKind (mixKind P w))) = L.map rowI := by
  rw [List.map_map]
  exact List.map_congr_left fun x _ => row_eq x
theorem keys_nd : ((L.map rw3).map (·.1)).Nodup ↔ (L.map (·.1)).Nodup := by
  have e : (L.map rw3).map (·.1) = (L.map (·.1)).map kI := by
    rw [List.map_map, List.map_map]
    rfl
  rw [e, List.nodup_iff_pairwise_ne, List.nodup_iff_pairwise_ne, List.pairwise_map]
  constructor
  · exact fun h => h.imp fun h e => h (by rw [e])
  · exact fun h => h.imp fun h e => h (kI_inj.mp e)
theorem ds_fields {H : Hp} (x : ObjOk P w H h a (DsO a L)) (hk : ∀ z ∈ L, (tupleKind (mixKind P w)).is h (kI z.1) z.2) : (a == sysModules) = false ∧ L.length ≤ sizeLine ∧ h.DictOfH (tupleKind (mixKind P w)) a (L.map rw3) := by
  obtain ⟨⟨h1, h2, o, es, ep, h3, h4, h5, h6, h7⟩, _⟩ := x
  refine ⟨h1, h2, o, es, ep, h3, h4, h5, by rw [h6, rows_eq], fun z hz => ?_, keys_nd.mpr h7⟩
  obtain ⟨y, hy, rfl⟩ := List.mem_map.mp hz
  exact hk y hy
theorem ds_new {H : Hp} (h1 : (a == sysModules) = false) (h2 : L.length ≤ sizeLine) (d : h.DictOfH (tupleKind (mixKind P w)) a (L.map rw3)) : ObjOk P w H h a (DsO a L) := by
  obtain ⟨o, es, ep, h3, h4, h5, h6, _, h7⟩ := d
  rw [rows_eq] at h6
  refine ⟨⟨h1, h2, o, es, ep, h3, h4, h5, h6, keys_nd.mp h7⟩, ⟨o, h3⟩, fun k1 k2 ⟨p1, p2, o', es', ep', p3, p4⟩ kk => ⟨p1, p2, o', es', ep', kk o' p3, p4⟩⟩
end
theorem at_mem (L : List (List Int × Addr)) (k : List Int) : (atKey (L.map rw3) (kI k)).isSome = decide (k ∈ L.map (·.1)) := by
  unfold atKey
  rw [Option.isSome_map]
  induction L with
  | nil => rfl
  | cons x L ih =>
    rw [List.map_cons, List.find?_cons, List.map_cons]
    by_cases e : x.1 = k
    · have : decide ((rw3 x).1 = kI k) = true := decide_eq_true (kI_inj.mpr e)
      rw [this]
      simp [e]
    · have : decide ((rw3 x).1 = kI k) = false := decide_eq_false fun z => e (kI_inj.mp z)
      rw [this]
      simp only [ih, List.mem_cons]
      have e' : ¬ k = x.1 := fun z => e z.symm
      simp [e']
def putL (L : List (List Int × Addr)) (k : List Int) (b : Addr) : List (List Int × Addr) := if k ∈ L.map (·.1) then L else L ++ [(k, b)]
theorem put_rows (L : List (List Int × Addr)) (k : List Int) (b : Addr) : storedH (L.map rw3) (kI k) b (.bool true) = (putL L k b).map rw3 := by
  unfold storedH putL
  rw [at_mem]
  by_cases e : k ∈ L.map (·.1)
  · rw [if_pos (decide_eq_true e), if_pos e, List.map_map]
    refine List.map_congr_left fun x _ => ?_
    show putAt (kI k) (.bool true) (rw3 x) = rw3 x
    unfold putAt
    split
    · rfl
    · rfl
  · rw [if_neg (by simpa using e), if_neg e, List.map_append]
    rfl
theorem put_keys (L : List (List Int × Addr)) (k : List Int) (b : Addr) : (putL L k b).map (·.1) = if k ∈ L.map (·.1) then L.map (·.1) else L.map (·.1) ++ [k] := by
  unfold putL
  split
  · rfl
  · rw [List.map_append]; rfl
section
variable {X : Cx} {pins : List (Addr × Obj)} {σ : L2.St} {H : Hp} {s : Shared}
theorem isK {b : Addr} {k : List Int} (I : Inv X pins σ H s) (h : SqT X.K H b (k.map V.int)) : (tupleKind (mixKind X.prog X.w)).is s.heap (kI k) b := by
  obtain ⟨its, r, ⟨o, h1, h2, n, h3⟩, _⟩ := I.tuple h
  rw [← kI_V] at r
  exact ⟨o, its.toArray, n, h1, h2, h3, by simpa using items_are r⟩
theorem ds_of {a : Addr} {L : List (List Int × Addr)} (I : Inv X pins σ H s) (e : H a = some (DsO a L)) (hk : ∀ z ∈ L, SqT X.K H z.2 (z.1.map V.int)) : (a == sysModules) = false ∧ L.length ≤ sizeLine ∧ s.heap.DictOfH (tupleKind (mixKind X.prog X.w)) a (L.map rw3) :=
  ds_fields (I.hok a _ e) fun z hz => isK I (hk z hz)
def rNotInDs (K : PySem.W.Frag) : R2 := fun x y H Q => ∃ (a b : Addr) (k : List Int) (L : List (List Int × Addr)), x = .ref b ∧ y = .ref a ∧ H a = some (DsO a L) ∧ (∀ z ∈ L, SqT K H z.2 (z.1.map V.int)) ∧ SqT K H b (k.map V.int) ∧ Q (.bl (!decide (k ∈ L.map (·.1)))) H
theorem op_notInDs (hu : X.A.units + 1 < cLine) : OpR X (compareOp .NotIn) (rNotInDs X.K) := by
  intro pins s σ H x y v u Q I rx ry h
  obtain ⟨a, b, k, L, rfl, rfl, ha, hk, hb, q⟩ := h
  cases (show v = Value.ref b from rx)
  cases (show u = Value.ref a from ry)
  obtain ⟨h1, h2, d⟩ := ds_of I ha hk
  refine wpAny_notIn_heap (tupleKind_room_in1 hu) (isK I hb) h1 d ?_
  rw [at_mem]
  exact ⟨.bl _, H, I.tok _, rfl, q⟩
def sPutDs (K : PySem.W.Frag) (td ty tv : TE) : TS := fun D σ H => tv σ H fun v H1 => td σ H1 fun x H2 => ty σ H2 fun y H3 => ∃ (a b : Addr) (k : List Int) (L : List (List Int × Addr)), v = .bl true ∧ x = .ref a ∧ y = .ref b ∧ H3 a = some (DsO a L) ∧ (∀ z ∈ L, SqT K H3 z.2 (z.1.map V.int)) ∧ SqT K H3 b (k.map V.int) ∧ L.length < sizeLine ∧ D.nx σ (upd H3 a (DsO a (putL L k b)))
theorem ps_putDs {o i value : Expr} {pos pos' : Pos} {td ty tv : TE} (hu : X.A.units + 1 < cLine) (ho : PE X o td) (hi : PE X i ty) (hv : PE X value tv) (hs : swapsWith value (some (.Subscript o i pos')) pos.line X.env = pure false) :
    PS X (.Assign [.Subscript o i pos'] value pos) (sPutDs X.K td ty tv) := by
  refine ⟨fun pins s σ H D I h => ?_⟩
  refine wpAny_Assign_Subscript (thn (hv.run pins s σ H _ I h) fun r s1 ⟨v, H1, I1, rv, q1⟩ => thn (ho.run pins s1 σ H1 _ I1 q1) fun u s2 ⟨x, H2, I2, rx, q2⟩ => thn (hi.run pins s2 σ H2 _ I2 q2) fun iv s3 ⟨y, H3, I3, ry, a, b, k, L, ev, ex, ey, ha, hk, hb, hl, q3⟩ => ?_) hs
  subst ev ex ey
  obtain rfl : u = Value.ref a := rx
  obtain rfl : iv = Value.ref b := ry
  obtain rfl : r = Value.bool true := rv
  obtain ⟨h1, h2, d⟩ := ds_of I3 ha hk
  refine wpAny_setItem_heap (hsz := by rw [List.length_map]; exact h2) (tupleKind_room_in1 hu) (isK I3 hb) d fun h' dd hsame => ?_
  rw [put_rows] at dd
  have hl2 : (putL L k b).length ≤ sizeLine := by
    unfold putL
    split
    · exact h2
    · rw [List.length_append, List.length_singleton]; omega
  have he : ∃ q, h'.get? a = some q := let ⟨q, _, _, hq, _⟩ := dd; ⟨q, hq⟩
  exact ⟨σ, _, d_write I3 (by rw [ha]; exact True.intro) hsame he (ds_new h1 hl2 dd), q3⟩
def tDNewS : TE := fun _ H Q => ∀ p, H p = none → Q (.ref p) (upd H p (DsO p []))
theorem pe_dnewS {pos : Pos} : PE X (.Dict [] [] pos) tDNewS := ⟨fun pins s σ H Q I h =>
  wpAny_Dict_empty ⟨.ref s.heap.objs.size, _, I.laid (a := s.heap.objs.size) (o := DsO s.heap.objs.size []) (t' := s.toks) (fun _ _ q => Heap.get?_push_of_some _ q) (Nat.le_refl _)
    (ds_new (beq_eq_false_iff_ne.mpr (Ne.symm (Nat.ne_of_lt I.big))) (Nat.zero_le _) (Heap.DictOfH.new s.heap)), rfl, h _ (I.hok.fresh (Nat.le_refl _))⟩⟩
end
section
variable {P : Program} {w : World} {A : Around} {E : Value → Shared → Prop} {s : Shared}
def colK (v : Value) : Sem (List Value) := match v with
  | .ref a => do
    let o ← load a
    match o.data with
    | .seq xs _ => pure xs.toList
    | _ => unsupported "internal:collect"
  | _ => unsupported "internal:collect"
def colR (M : Model) (A : Around) (Q : List Value → Shared → Prop) (E : Value → Shared → Prop) (r : Result) (s' : Shared) : Prop := match r with
  | .ok (.ret v) => wpAny M A (colK v) Q E s'
  | .ok _ => False
  | .error e => E e s'
theorem collectDs {d : Addr} {o : Obj} {es : Array DictEntry} {ep : Nat} {Q : List Value → Shared → Prop} (hh : A.handled = none) (lo : (d == sysModules) = false) (ho : s.heap.get? d = some o) (hx : o.ExactDict) (hd : o.data = .dict es ep) (hn : es.size ≤ sizeLine)
    (hQ : ∀ (h' : Heap) (tk : Nat) (acc : Array Value), (∀ b u, s.heap.get? b = some u → h'.get? b = some u) → s.heap.objs.size ≤ h'.objs.size → ItemsOf (fun i v => ∃ en : DictEntry, es[i]? = some en ∧ v = en.key) acc es.size → Q acc.toList { s with heap := h', toks := tk }) :
    wpAny (model P w) A (collect (.ref d)) Q E s := by
  have hlt : d < s.heap.objs.size := Heap.lt_size ho
  have hSd : s.heap.objs.size ≠ d := Nat.ne_of_gt hlt
  unfold collect
  refine wpAny_bind (wpAny_runValue (codeAny_builtin PySem.F.entry_proto_collect ?_))
  rw [Around.under_plainId PySem.F.plain_proto_collect _]
  show wpAny _ A.in1 (newList [] >>= fun l => again (.builtin "list.__iadd__" ⟨[l, .ref d], []⟩)) _ _ s
  refine wpAny_bind (wpAny_newObj_type ?_)
  refine wpAny_pure ⟨plainId_quiet PySem.F.plain_list_iadd _, codeAny_builtin PySem.F.entry_list_iadd ?_⟩
  rw [Around.under_plainId PySem.F.plain_list_iadd _]
  have hS : (s.heap.push { cls := .type "list", data := .seq ([] : List Value).toArray }).get? s.heap.objs.size = some { cls := .type "list", data := .seq ([] : List Value).toArray } := Heap.get?_push_size _ rfl
  show wpAny _ A.in1 (Builtin.List.listExtendWith (.ref s.heap.objs.size) (.ref d) (.ref s.heap.objs.size)) _ _ _
  refine wpAny_mono (PySem.W.kdl_extend (R := colR (model P w) A Q E) (s := { s with heap := s.heap.push { cls := .type "list", data := .seq ([] : List Value).toArray } }) (kdl_raw lo hx hd) hh (Heap.get?_push_of_some _ ho) s.heap.objs.size hSd hSd _ 0 hS (fun h' tk acc' c' hk hS' hacc => ?_) hn) (fun fin s' h => by cases fin <;> exact h) (fun e s' h => h)
  show wpAny _ A (load s.heap.objs.size >>= _) _ _ _
  refine wpAny_bind (wpAny_load hS' ?_)
  refine wpAny_pure ?_
  refine hQ h' tk acc' (fun b u e => hk b u (Nat.ne_of_lt (Heap.lt_size e)) (Heap.get?_push_of_some _ e)) (Nat.le_of_lt (Heap.lt_size hS')) hacc
end
def tDI (k : List Int) : D := .tuple (k.map .int)
def rSortedDs (K : PySem.W.Frag) : List V → Hp → VK → Prop := fun vs H Q => ∃ (a : Addr) (L : List (List Int × Addr)) (P : V → D → Prop), vs = [.ref a] ∧ H a = some (DsO a L) ∧ (∀ z ∈ L, SqT K H z.2 (z.1.map V.int)) ∧ Paired P (L.map fun z => V.ref z.2) (L.map fun z => tDI z.1) ∧
  PySem.W.AllAlike (L.map fun z => tDI z.1) ∧ PySem.W.Sortable (L.map fun z => tDI z.1) ∧ (∀ d ∈ (L.map fun z => tDI z.1), d.depth ≤ 64) ∧
  ∀ (ys : List V) (p : Addr), Paired P ys ((L.map fun z => tDI z.1).mergeSort (PySem.W.dataLe false id)) → H p = none → Q (.ref p) (upd H p (.lst ys))
theorem dp_keys {K : PySem.W.Frag} {H : Hp} : ∀ {L : List (List Int × Addr)}, (∀ z ∈ L, SqT K H z.2 (z.1.map V.int)) → DpAll K H (L.map fun z => V.ref z.2) (L.map fun z => tDI z.1)
  | [], _ => .nil
  | z :: L, h => .cons (.tup (h z List.mem_cons_self) (RqAll_dp _ _ (dpInts z.1))) (dp_keys fun y hy => h y (List.mem_cons_of_mem _ hy))
theorem vals_keys : ∀ (L : List (List Int × Addr)), Vals (L.map fun z => V.ref z.2) (L.map fun z => Value.ref z.2)
  | [] => .nil
  | _ :: L => .cons rfl (vals_keys L)
open PySem.Calls in
theorem cr_sortedDs {X : Cx} (hc : X.calm = true) (hu : X.A.units + 100 < cLine) : CallR X (.builtin "sorted") (rSortedDs X.K) := by
  intro pins s σ H vs us Q I r h
  obtain ⟨a, L, P, rfl, ha, hk, hp, hal, hso, hdp, q⟩ := h
  obtain ⟨u, rfl, ru⟩ := vals1 r
  obtain rfl : u = Value.ref a := ru
  obtain ⟨⟨h1, h2, o, es, ep, h3, h4, h5, h6, h7⟩, _⟩ := (show ObjOk X.prog X.w H s.heap a (DsO a L) from I.hok a _ ha)
  have hes : es.size = L.length := by rw [← Array.length_toList, h6, List.length_map]
  refine call_function_entry_kw kind_sorted plain_sorted entry_sorted (args_sorted1 _) ?_
  unfold Builtin.«sorted»
  refine wpAny_bind (m := checkCount "sorted" 1 1 _) (wpAny_pure ?_)
  refine wpAny_bind (collectDs (A := X.A.in1) (I.ok.hd hc) h1 h3 h4 h5 (by rw [hes]; exact h2) fun h' tk acc kp hz it => ?_)
  have ev : acc.toList = L.map fun z => Value.ref z.2 := by
    apply List.ext_getElem?
    intro j
    rw [List.getElem?_map]
    cases hj : acc.toList[j]? with
    | none =>
      have hl := List.getElem?_eq_none_iff.mp hj
      rw [Array.length_toList, it.1, hes] at hl
      rw [List.getElem?_eq_none hl]
      rfl
    | some v =>
      rw [Array.getElem?_toList] at hj
      obtain ⟨en, he, rfl⟩ := it.2 j v hj
      have e2 : es.toList[j]? = some en := by rw [Array.getElem?_toList]; exact he
      rw [h6, List.getElem?_map] at e2
      obtain ⟨z, hz2, rfl⟩ := Option.map_eq_some_iff.mp e2
      rw [hz2]
      rfl
  rw [ev]
  generalize hvs : (L.map fun z => Value.ref z.2) = vs
  have hvl : vs.length = L.length := by rw [← hvs, List.length_map]
  have hzl : vs.length ≤ sizeLine := by rw [hvl]; exact h2
  refine wpAny_bind (wpAny_newList ?_ hzl)
  have hoL : (h'.push (seqObj "list" vs.toArray 0)).get? h'.objs.size = some (seqObj "list" vs.toArray 0) := Heap.get?_push_size _ rfl
  have hds : (L.map fun z => tDI z.1).length = L.length := List.length_map _
  obtain ⟨as, hr⟩ := Dp.readsAll I _ _ vs (dp_keys hk) (by rw [← hvs]; exact vals_keys L)
  have kp2 : ∀ b u, s.heap.get? b = some u → (PySem.W.sortingHeap (h'.push (seqObj "list" vs.toArray 0)) h'.objs.size vs).get? b = some u := fun b u e =>
    PySem.W.sortingHeap_old (Nat.ne_of_lt (Nat.lt_of_lt_of_le (Heap.lt_size e) hz)) (Heap.get?_push_of_some _ (kp b u e))
  have hr' : ReadsAll s.heap vs ((L.map fun z => tDI z.1).map id) as := by rw [List.map_id]; exact hr
  have er0 := PySem.W.readsAll_each id hr'
  have er : PySem.W.EachIs (fun v b => ∃ as, Reads (PySem.W.sortingHeap (h'.push (seqObj "list" vs.toArray 0)) h'.objs.size vs) v (id b) as) vs (L.map fun z => tDI z.1) := er0.mono fun _ _ ⟨as, r⟩ => ⟨as, PyProof.Rows.Reads.keeps (fun b u e => kp2 b u e) r⟩
  have hbd : ∀ b, b ∈ (L.map fun z => tDI z.1) → X.A.units + 2 + (id b : D).depth < cLine := fun b hb => by
    have := hdp b hb
    show X.A.units + 2 + PyData.depth b < cLine
    omega
  have S := PySem.W.SortsAt.data (prog := X.prog) (w := X.w) (A := X.A.in1.in1) (s := { s with heap := PySem.W.sortingHeap (h'.push (seqObj "list" vs.toArray 0)) h'.objs.size vs, toks := tk })
    (PySem.W.each_map (R := fun v d => ∃ as, Reads (PySem.W.sortingHeap (h'.push (seqObj "list" vs.toArray 0)) h'.objs.size vs) v d as) id er) (by rw [List.map_id]; exact hal) (by rw [List.map_id]; exact hso) (PySem.W.bound_map hbd)
  refine wpAny_bind (wpAny_holding (wpAny_call_entry_kw slot_list_sort ⟨_, hoL, rfl⟩ entry_list_sort ?bd (args_list_sort _)))
  case bd =>
    show wpAny (model X.prog X.w) X.A.in1.in1 (Builtin.«list.sort» ⟨[.ref h'.objs.size], []⟩) _ _ _
    have fin : EP X pins σ Q (.ref h'.objs.size) { s with heap := sortedHeap (h'.push (seqObj "list" vs.toArray 0)) h'.objs.size vs (PySem.W.sortVals (PySem.W.dataKind (PySem.W.sortingHeap (h'.push (seqObj "list" vs.toArray 0)) h'.objs.size vs) ((L.map fun z => tDI z.1).map id)) false vs vs).toArray, toks := tk } := by
      have ho := PySem.W.sortVals_length (κ := PySem.W.dataKind (PySem.W.sortingHeap (h'.push (seqObj "list" vs.toArray 0)) h'.objs.size vs) ((L.map fun z => tDI z.1).map id)) (ks := vs) (vs := vs) false rfl
      have he := PySem.W.sortVals_data (R := fun u d => ∃ x, L2.RelV x u ∧ P x d) (enc := id) false (each_of (by rw [← hvs]; exact vals_keys L) hp) er (by rw [List.map_id]; exact hal)
      obtain ⟨ys, g1, g2⟩ := of_each he
      obtain ⟨n, hn⟩ := sortedHeap_at (vs := vs) (out := (PySem.W.sortVals (PySem.W.dataKind (PySem.W.sortingHeap (h'.push (seqObj "list" vs.toArray 0)) h'.objs.size vs) ((L.map fun z => tDI z.1).map id)) false vs vs).toArray) hoL
      refine ⟨.ref h'.objs.size, upd H h'.objs.size (.lst ys), I.laid (t' := tk) (fun b u e => ?_) hz ⟨?_, _, n, g1, hn⟩, rfl, q ys _ g2 (I.hok.fresh hz)⟩
      · have e1 := kp b u e
        rw [sortedHeap_old (Nat.ne_of_lt (Heap.lt_size e1)) (by rw [size_push']; exact Nat.lt_succ_of_lt (Heap.lt_size e1))]
        exact Heap.get?_push_of_some _ e1
      · rw [g1.length, ho, hvl]
        exact h2
    refine wpAny_mono (PySem.W.list_sort_vals (P := fun f t => f = .done (.ret .none) ∧ EP X pins σ Q (.ref h'.objs.size) t) (s := { s with heap := h'.push (seqObj "list" vs.toArray 0), toks := tk }) hoL S hzl ⟨rfl, fin⟩) (fun f t ⟨e, q⟩ => ?_) fun _ _ e => e
    subst e
    exact ⟨_, rfl, wpAny_pure ⟨_, rfl, q⟩⟩
end DL
namespace DL
open PySem
open PySem.Spec
open PyProof.Rows
open L2
def asIntT : D → Option (List Int)
  | .tuple ds => asInts ds
  | _ => none
theorem Rep.intT {c : Ctx} {F : Hp} {v : V} {d : D} {k : List Int} (h : Rep c F v d) (e : asIntT d = some k) : ∃ b, v = .ref b ∧ SqT c.K F b (k.map V.int) := by
  cases d with
  | tuple ds =>
    obtain ⟨b, vs, rfl, q1, q2⟩ := h.tuple
    rw [asInts_of e] at q2
    have e2 : vs = k.map V.int := RqAll.ints q2
    rw [e2] at q1
    exact ⟨b, rfl, q1⟩
  | _ => cases e
theorem SR.ods {c : Ctx} {F H : Hp} {σ : L2.St} {ρ : RS} {g : G} (s : SR c F H σ ρ g) {i : Nat} {ks : List (List Int)} (h : ρ[i]? = some (.ods ks)) : ∃ a L, σ[i]? = some (some (.ref a)) ∧ H a = some (DsO a L) ∧ L.map (·.1) = ks ∧ (∀ x ∈ L, SqT c.K F x.2 (x.1.map V.int)) ∧ F a = none ∧ c.H0 a = none := s.slots i _ h
def noOds : RS → Bool
  | [] => true
  | .ods _ :: _ => false
  | _ :: r => noOds r
theorem noOds_get : ∀ {ρ : RS} {i : Nat} {ks : List (List Int)}, noOds ρ = true → ρ[i]? ≠ some (.ods ks)
  | [], _, _, _, h => by simp at h
  | .ods _ :: _, _, _, h, _ => by cases h
  | .un :: r, 0, _, _, h => by simp at h
  | .d _ :: r, 0, _, _, h => by simp at h
  | .own _ :: r, 0, _, _, h => by simp at h
  | .ex _ :: r, 0, _, _, h => by simp at h
  | .odc _ :: r, 0, _, _, h => by simp at h
  | .un :: r, i + 1, _, h, e => noOds_get (ρ := r) (i := i) h (by simpa using e)
  | .d _ :: r, i + 1, _, h, e => noOds_get (ρ := r) (i := i) h (by simpa using e)
  | .own _ :: r, i + 1, _, h, e => noOds_get (ρ := r) (i := i) h (by simpa using e)
  | .ex _ :: r, i + 1, _, h, e => noOds_get (ρ := r) (i := i) h (by simpa using e)
  | .odc _ :: r, i + 1, _, h, e => noOds_get (ρ := r) (i := i) h (by simpa using e)
def soleS (ρ : RS) (i : Nat) : Bool := noOds (ρ.set i .un)
theorem soleS_get {ρ : RS} {i j : Nat} {ks : List (List Int)} (h : soleS ρ i = true) (n : i ≠ j) : ρ[j]? ≠ some (.ods ks) := by
  have := noOds_get (i := j) (ks := ks) h
  rw [List.getElem?_set_ne n] at this
  exact this
theorem SR.updS {c : Ctx} {F H : Hp} {σ : L2.St} {ρ : RS} {g : G} (s : SR c F H σ ρ g) {i : Nat} {a : Addr} {ks ks' : List (List Int)} {L L' : List (List Int × Addr)} (h : ρ[i]? = some (.ods ks)) (e : σ[i]? = some (some (.ref a))) (h1 : H a = some (DsO a L)) (h2 : F a = none) (h3 : c.H0 a = none) (hs : soleS ρ i = true)
    (h4 : L'.map (·.1) = ks') (h5 : ∀ x ∈ L', SqT c.K F x.2 (x.1.map V.int)) : SR c F (upd H a (DsO a L')) σ (ρ.set i (.ods ks')) g where
  ext := {
    f := s.ext.f
    fh := fun p o q => by
      rw [upd_ne (ne_of_none q h2)]
      exact s.ext.fh p o q
    keep := fun p o q n m => by
      rw [upd_ne (ne_of_none q h3)]
      exact s.ext.keep p o q n m
    dom := fun p o q => by
      rw [upd_ne (ne_of_none q h3)]
      exact s.ext.dom p o q
    ff := s.ext.ff }
  gok := by
    obtain ⟨n1, n2⟩ := s.ownNe h3
    exact s.gok.ext rfl rfl (upd_ne n1.symm) (upd_ne n2.symm)
  g0 := s.g0
  len := by rw [List.length_set, s.len]
  slots := fun j y k => by
    by_cases hj : i = j
    · subst hj
      have hi : i < ρ.length := (List.getElem?_eq_some_iff.mp h).1
      rw [List.getElem?_set_self hi] at k
      cases k
      exact ⟨a, L', e, upd_same, h4, h5, h2, h3⟩
    · rw [List.getElem?_set_ne hj] at k
      have q := s.slots j y k
      cases y with
      | un => trivial
      | d x => exact q
      | own ys =>
        obtain ⟨b, ws, q1, q2, q3, q4, q5⟩ := q
        refine ⟨b, ws, q1, ?_, q3, q4, q5⟩
        rw [upd_ne fun z => by rw [z, h1] at q2; cases q2]
        exact q2
      | ex fs =>
        obtain ⟨ws, q1, q2, q3⟩ := q
        refine ⟨ws, q1, ?_, q3⟩
        rw [upd_ne fun z => by rw [z, h1] at q2; cases q2]
        exact q2
      | odc kk =>
        obtain ⟨b, q1, q2, q3, q4⟩ := q
        refine ⟨b, q1, ?_, q3, q4⟩
        rw [upd_ne fun z => by rw [z, h1] at q2; cases q2]
        exact q2
      | ods kk => exact absurd k (soleS_get hs hj)
  sep := fun j k xs1 ys b k1 k2 k3 k4 => by
    obtain ⟨_, k1⟩ := set_own (fun _ e => by cases e) k1
    obtain ⟨_, k2⟩ := set_own (fun _ e => by cases e) k2
    exact s.sep j k xs1 ys b k1 k2 k3 k4
section
variable {X : Cx} {c : Ctx} {W : WX} {pos : Pos} {a b e e2 : Expr} {es : List Expr} {st : Stmt} {fs : AF} {fa fe fk : EF}
def eInS (fa : EF) (i : Nat) : EF := fun ρ g => (fa ρ g).bind fun x g1 => match ρ[i]? with
  | some (.ods ks) => match asIntT x with
    | some k => .ok (.bool (!decide (k ∈ ks))) g1
    | none => .bad
  | _ => .bad
theorem inS_imp {i : Nat} {σ : L2.St} {H : Hp} {Q : VK} (hK : c.K = X.K) (w : tE c W (eInS fa i) σ H Q) : tOp (rNotInDs X.K) (tE c W fa) (tVar i) σ H Q := by
  obtain ⟨F, ρ, g, s, h⟩ := w
  exact ⟨F, ρ, g, s, PostG.bind s h fun x g1 v F1 H1 e1 s1 r1 h1 => by
    split at h1
    · rename_i ks hi
      split at h1
      · rename_i k hk
        obtain ⟨a, L, m1, m2, m3, m4, m5, m6⟩ := s1.ods hi
        obtain ⟨b, rfl, q1⟩ := r1.intT hk
        rw [← m3] at h1
        rw [hK] at m4 q1
        exact ⟨_, m1, a, b, k, L, rfl, rfl, m2, fun z hz => seqT_mono s1.fh (m4 z hz), seqT_mono s1.fh q1, h1.now s1 rBl⟩
      · exact h1.elim
    · exact h1.elim⟩
theorem d_notInS {i : Nat} (hK : c.K = X.K) (hu : X.A.units + 65 < cLine) (ha : DE X c W a fa) (hb : PE X b (tVar i)) (hm : behindInMarks .NotIn b = false := by rfl) : DC X c W (.Compare a [.NotIn] [b] pos) (eInS fa i) :=
  ⟨PE.imp (pe_cmpR (op_notInDs (by omega)) ha hb hm) fun σ H Q w => inS_imp hK w, PT.imp (pt_cmpR (op_notInDs (by omega)) ha hb hm) fun σ H Q w => inS_imp hK (val_imp w)⟩
def putS (ks : List (List Int)) (k : List Int) : List (List Int) := if k ∈ ks then ks else ks ++ [k]
def sPutS (i : Nat) (fk fe : EF) : SF := fun ρ g => match ρ[i]? with
  | some (.ods ks) => (fe ρ g).go ρ fun d g1 => (fk ρ g1).go ρ fun x g2 => match d, asIntT x with
    | .bool true, some k => if ks.length < LIM ∧ soleS ρ i = true then .nx (ρ.set i (.ods (putS ks k))) g2 else .bad
    | _, _ => .bad
  | _ => .bad
theorem ds_putS {i : Nat} (hK : c.K = X.K) (h : PS X st (sPutDs X.K (tVar i) (tE c W fk) (tE c W fe))) : DS X c W st (sPutS i fk fe) := PS.imp h fun E σ H ⟨F, ρ, g, s, h⟩ => by
  unfold sPutS at h
  split at h
  · rename_i ks hi
    refine ⟨F, ρ, g, s, go_post s h fun d g1 v F1 H1 e1 s1 r1 h1 => ?_⟩
    obtain ⟨a, L0, k1, _⟩ := s1.ods hi
    refine ⟨.ref a, k1, F1, ρ, g1, s1, go_post s1 h1 fun x g2 u F2 H2 e2 s2 r2 h2 => ?_⟩
    split at h2
    · rename_i k hk
      obtain ⟨⟨l1, hs⟩, h2⟩ := h2.ite
      cases r1.bl
      obtain ⟨b, rfl, q1⟩ := r2.intT hk
      obtain ⟨a', L, m1, m2, m3, m4, m5, m6⟩ := s2.ods hi
      rw [k1] at m1
      cases m1
      have hlen : L.length = ks.length := by rw [← m3, List.length_map]
      refine ⟨a, b, k, L, rfl, rfl, rfl, m2, fun z hz => ?_, ?_, by rw [hlen]; exact lim_lt l1, ?_⟩
      · have := m4 z hz
        rw [hK] at this
        exact seqT_mono s2.fh this
      · rw [← hK]
        exact seqT_mono s2.fh q1
      · refine h2 σ F2 _ (Same.refl _) (s2.updS hi k1 m2 m5 m6 hs ?_ fun z hz => ?_)
        · rw [put_keys, m3]
          rfl
        · unfold putL at hz
          split at hz
          · exact m4 z hz
          · rcases List.mem_append.mp hz with hz | hz
            · exact m4 z hz
            · rw [List.mem_singleton.mp hz]
              exact q1
    · exact h2.elim
  · exact h.elim
def sNewS (i : Nat) : SF := fun ρ g => .nx (ρ.set i (.ods [])) g
theorem ds_newS {i : Nat} (h : PS X st (tAsg tDNewS (gName i))) : DS X c W st (sNewS i) := PS.imp h fun E σ H ⟨F, ρ, g, s, h⟩ => fun p n =>
  h _ F _ (Same.refl F) ((s.newM n).setDst upd_same (s.fnone n) (s.h0none n) rfl (fun _ hx => by cases hx) i)
def vOwnS (fo : OF') (fs : AF) : VF := fun ρ g => (vOwn fo fs ρ g).bind fun ss g2 => .ok (.ods [] :: ss) g2
theorem dv_ownS {fo : OF'} (ha : PE X e tDNewS) (hb : DEo X c W e2 fo) (hr : DA X c W es fs) (hs : starEach (e :: e2 :: es) X.env = (false, eval e X.env) :: starEach (e2 :: es) X.env := by rfl) (hs2 : starEach (e2 :: es) X.env = (false, eval e2 X.env) :: starEach es X.env := by rfl) : DVs X c W (e :: e2 :: es) (vOwnS fo fs) :=
  PA.imp (pa_cons ha (dv_own hb hr hs2) hs) fun σ H Q ⟨F, ρ, g, s, h⟩ => fun p n => by
    unfold vOwnS at h
    have e1 : Ext c.sa c.sb F H F (upd H p (DsO p [])) := Ext.newM s.fh n
    refine ⟨F, ρ, g, s.newM n, ?_⟩
    cases q2 : vOwn fo fs ρ g with
    | bad => simp only [q2, Out.bind] at h; exact h.elim
    | exc n fs g2 => simp only [q2, Out.bind] at h; exact fun C dx vs F2 H2 e2 gk hc hd hf => h C dx vs F2 H2 (e1.trans e2) gk hc hd hf
    | ok ss g2 =>
      simp only [q2, Out.bind] at h
      intro vs F2 H2 e2 gk r2
      have na : p ≠ c.sa := (ne_of_none s.gok.ha n).symm
      have nb : p ≠ c.sb := (ne_of_none s.gok.hb n).symm
      have hss : ∃ (ys ds : List D), ss = .own ys :: ds.map SV.d := by
        unfold vOwn at q2
        cases q3 : fo ρ g with
        | bad => simp only [q3, Out.bind] at q2; cases q2
        | exc n fs g2 => simp only [q3, Out.bind] at q2; cases q2
        | ok ys g3 =>
          simp only [q3, Out.bind] at q2
          cases q4 : fs ρ g3 with
          | bad => simp only [q4] at q2; cases q2
          | exc n fs g2 => simp only [q4] at q2; cases q2
          | ok ds g4 =>
            simp only [q4] at q2
            injection q2 with q2
            exact ⟨ys, ds, q2.symm⟩
      obtain ⟨ys, ds, rfl⟩ := hss
      refine h (.ref p :: vs) F2 H2 (e1.trans e2) gk ?_
      have kp := e2.keep p _ upd_same na nb
      have kf : F2 p = none := by rw [e2.ff p _ upd_same]; exact s.fnone n
      generalize hl : ds.map SV.d = ls at r2
      cases r2 with
      | o k1 k2 k3 k4 k5 => exact .os kp kf n k1 k2 (fresh_back e1 k3) k4 k5
      | oo k1 k2 k3 k4 l1 l2 l3 l4 hn k5 =>
        cases ds with
        | nil => cases hl
        | cons d ds => cases hl
def eSortS (i : Nat) : EF := fun ρ g => match ρ[i]? with
  | some (.ods ks) => if sortOk (ks.map tDI) = true then .ok (.list (sortD (ks.map tDI))) g else .bad
  | _ => .bad
theorem pr_keys {K : PySem.W.Frag} {F : Hp} : ∀ {L : List (List Int × Addr)}, (∀ z ∈ L, SqT K F z.2 (z.1.map V.int)) → Paired (Rq K F) (L.map fun z => V.ref z.2) (L.map fun z => tDI z.1)
  | [], _ => .nil
  | z :: L, h => .cons (.tup (h z List.mem_cons_self) (dpInts z.1)) (pr_keys fun y hy => h y (List.mem_cons_of_mem _ hy))
theorem d_sortS {i : Nat} {e : Expr} (hK : c.K = X.K) (h : PE X e (tCB (rSortedDs X.K) (tCons (tVar i) tNil))) : DE X c W e (eSortS i) := PE.imp h fun σ H Q ⟨F, ρ, g, s, h⟩ => by
  unfold eSortS at h
  split at h
  · rename_i ks hi
    obtain ⟨hk, h⟩ := h.ite
    obtain ⟨a, L, m1, m2, m3, m4, m5, m6⟩ := s.ods hi
    have em : L.map (fun z => tDI z.1) = ks.map tDI := by rw [← m3, List.map_map]; rfl
    obtain ⟨h1, h2, h3⟩ := sortOk_all hk
    refine ⟨_, m1, a, L, Rq c.K F, rfl, m2, fun z hz => ?_, pr_keys m4, by rw [em]; exact h1, by rw [em]; exact h2, by rw [em]; exact h3, fun ys p hp hn => ?_⟩
    · have := m4 z hz
      rw [hK] at this
      exact seqT_mono s.fh this
    · rw [em] at hp
      rw [sortD_eq] at hp
      exact h.newList s hn (paired_rq hp)
  · exact h.elim
end
end DL
namespace DL
open PySem
open PySem.Spec
open PyProof.Rows
open L2
def ltL : List Int → List Int → Bool
  | a :: r, b :: q => decide (a < b) || (decide (a = b) && ltL r q)
  | _, _ => false
def insT (x : List Int) : List (List Int) → List (List Int)
  | [] => [x]
  | y :: r => if x = y then y :: r else if ltL x y = true then x :: y :: r else y :: insT x r
def sortT : List (List Int) → List (List Int)
  | [] => []
  | x :: r => insT x (sortT r)
theorem insT_mem {x z : List Int} : ∀ {l : List (List Int)}, z ∈ insT x l ↔ z = x ∨ z ∈ l
  | [] => by simp [insT]
  | y :: r => by
    unfold insT
    split
    · rename_i e
      subst e
      simp
    · split
      · simp
      · rw [List.mem_cons, insT_mem (l := r), List.mem_cons]
        constructor
        · rintro (h | h | h)
          · exact .inr (.inl h)
          · exact .inl h
          · exact .inr (.inr h)
        · rintro (h | h | h)
          · exact .inr (.inl h)
          · exact .inl h
          · exact .inr (.inr h)
theorem sortT_mem {z : List Int} : ∀ {l : List (List Int)}, z ∈ sortT l ↔ z ∈ l
  | [] => Iff.rfl
  | x :: r => by
    show z ∈ insT x (sortT r) ↔ _
    rw [insT_mem, sortT_mem (l := r), List.mem_cons]
def gdT (d : Nat) (B : Int) (k : List Int) : Prop := k.length = d ∧ TS.Bd B k
theorem ltL_code {B : Int} : ∀ {x y : List Int}, x.length = y.length → TS.Bd B x → TS.Bd B y → (ltL x y = true ↔ TS.code B x < TS.code B y)
  | [], [], _, _, _ => by
    constructor
    · intro h; cases h
    · intro h; exact absurd h (Int.lt_irrefl _)
  | [], _ :: _, h, _, _ => by cases h
  | _ :: _, [], h, _, _ => by cases h
  | a :: r, b :: q, h, h1, h2 => by
    have hl : r.length = q.length := by simpa using h
    have ih := ltL_code (B := B) hl h1.tail h2.tail
    unfold ltL
    rw [Bool.or_eq_true, Bool.and_eq_true, decide_eq_true_iff, decide_eq_true_iff]
    constructor
    · rintro (z | ⟨rfl, z⟩)
      · exact TS.code_lt hl h1.tail h2.tail z
      · exact (TS.code_same hl).mpr (ih.mp z)
    · intro z
      rcases Int.lt_trichotomy a b with y | y | y
      · exact .inl y
      · subst y
        exact .inr ⟨rfl, ih.mpr ((TS.code_same hl).mp z)⟩
      · have := TS.code_lt hl.symm h2.tail h1.tail y
        omega
theorem code_tot {B : Int} : ∀ {x y : List Int}, x.length = y.length → TS.Bd B x → TS.Bd B y → x ≠ y → TS.code B x < TS.code B y ∨ TS.code B y < TS.code B x
  | [], [], _, _, _, n => absurd rfl n
  | [], _ :: _, h, _, _, _ => by cases h
  | _ :: _, [], h, _, _, _ => by cases h
  | a :: r, b :: q, h, h1, h2, n => by
    have hl : r.length = q.length := by simpa using h
    rcases Int.lt_trichotomy a b with y | y | y
    · exact .inl (TS.code_lt hl h1.tail h2.tail y)
    · subst y
      rcases code_tot hl h1.tail h2.tail (fun e => n (by rw [e])) with z | z
      · exact .inl ((TS.code_same hl).mpr z)
      · exact .inr ((TS.code_same hl.symm).mpr z)
    · exact .inr (TS.code_lt hl.symm h2.tail h1.tail y)
abbrev ltC (B : Int) (q r : List Int) : Prop := TS.code B q < TS.code B r
theorem insT_asc {d : Nat} {B : Int} {x : List Int} (hx : gdT d B x) : ∀ {l : List (List Int)}, (∀ k ∈ l, gdT d B k) → l.Pairwise (ltC B) → (insT x l).Pairwise (ltC B)
  | [], _, _ => List.pairwise_singleton _ _
  | y :: r, hg, hp => by
    obtain ⟨p1, p2⟩ := List.pairwise_cons.mp hp
    have hy := hg y List.mem_cons_self
    unfold insT
    split
    · exact hp
    · rename_i ne
      split
      · rename_i lt
        have c := (ltL_code (hx.1.trans hy.1.symm) hx.2 hy.2).mp lt
        refine List.pairwise_cons.mpr ⟨fun z hz => ?_, hp⟩
        rcases List.mem_cons.mp hz with rfl | hz
        · exact c
        · exact Int.lt_trans c (p1 z hz)
      · rename_i nl
        refine List.pairwise_cons.mpr ⟨fun z hz => ?_, insT_asc hx (fun k hk => hg k (List.mem_cons_of_mem _ hk)) p2⟩
        rcases insT_mem.mp hz with rfl | hz
        · rcases code_tot (hx.1.trans hy.1.symm) hx.2 hy.2 ne with c | c
          · exact absurd ((ltL_code (hx.1.trans hy.1.symm) hx.2 hy.2).mpr c) nl
          · exact c
        · exact p1 z hz
theorem sortT_asc {d : Nat} {B : Int} : ∀ {l : List (List Int)}, (∀ k ∈ l, gdT d B k) → (sortT l).Pairwise (ltC B)
  | [], _ => .nil
  | x :: r, h => insT_asc (h x List.mem_cons_self) (fun k hk => h k (List.mem_cons_of_mem _ (sortT_mem.mp hk))) (sortT_asc fun k hk => h k (List.mem_cons_of_mem _ hk))
theorem asc_uniqC {α : Type} {f : α → Int} : ∀ {l m : List α}, l.Pairwise (fun a b => f a < f b) → m.Pairwise (fun a b => f a < f b) → (∀ z, z ∈ l ↔ z ∈ m) → l = m
  | [], [], _, _, _ => rfl
  | [], y :: _, _, _, h => absurd ((h y).mpr List.mem_cons_self) (by simp)
  | x :: _, [], _, _, h => absurd ((h x).mp List.mem_cons_self) (by simp)
  | x :: l, y :: m, h1, h2, h => by
    obtain ⟨a1, a2⟩ := List.pairwise_cons.mp h1
    obtain ⟨b1, b2⟩ := List.pairwise_cons.mp h2
    have e : x = y := by
      have p := (h x).mp List.mem_cons_self
      have q := (h y).mpr List.mem_cons_self
      rcases List.mem_cons.mp p with p | p
      · exact p
      · rcases List.mem_cons.mp q with q | q
        · exact q.symm
        · have := b1 x p
          have := a1 y q
          omega
    subst e
    rw [asc_uniqC a2 b2 fun z => by
      constructor
      · intro hz
        rcases List.mem_cons.mp ((h z).mp (List.mem_cons_of_mem _ hz)) with e | e
        · have := a1 z hz
          rw [e] at this
          exact absurd this (Int.lt_irrefl _)
        · exact e
      · intro hz
        rcases List.mem_cons.mp ((h z).mpr (List.mem_cons_of_mem _ hz)) with e | e
        · have := b1 z hz
          rw [e] at this
          exact absurd this (Int.lt_irrefl _)
        · exact e]
def asTs : List D → Option (List (List Int))
  | [] => some []
  | x :: r => match asIntT x, asTs r with
    | some k, some ks => some (k :: ks)
    | _, _ => none
theorem asTs_of : ∀ {ds : List D} {ks : List (List Int)}, asTs ds = some ks → ds = ks.map tDI
  | [], ks, h => by cases h; rfl
  | x :: r, ks, h => by
    unfold asTs at h
    split at h
    · rename_i k ks' h1 h2
      cases h
      rw [asTs_of h2]
      cases x with
      | tuple ds =>
        rw [asInts_of (show asInts ds = some k from h1)]
        rfl
      | _ => cases h1
    · cases h
theorem asTs_map : ∀ ks : List (List Int), asTs (ks.map tDI) = some ks
  | [] => rfl
  | k :: ks => by
    show (match asIntT (tDI k), asTs (ks.map tDI) with | some k, some ks => some (k :: ks) | _, _ => none) = _
    rw [asTs_map ks, show asIntT (tDI k) = some k from asInts_map k]
theorem tup_refs {K : PySem.W.Frag} {c : Ctx} {F : Hp} (hK : c.K = K) : ∀ {vs : List V} {ks : List (List Int)}, RqAll c.K F vs (ks.map tDI) → ∃ ps : List (Addr × List Int), vs = ps.map (fun p => V.ref p.1) ∧ (∀ p ∈ ps, SqT K F p.1 (p.2.map V.int)) ∧ ps.map (·.2) = ks
  | _, [], .nil => ⟨[], rfl, (by intro p hp; cases hp), rfl⟩
  | _, k :: ks, .cons h t => by
    obtain ⟨ps, h1, h2, h3⟩ := tup_refs hK t
    obtain ⟨a, ws, rfl, q1, q2⟩ := Rep.tuple (c := c) (.inl h)
    have e : ws = k.map V.int := RqAll.ints q2
    subst e
    rw [hK] at q1
    exact ⟨(a, k) :: ps, by rw [h1]; rfl, fun q hq => by
      rcases List.mem_cons.mp hq with rfl | hq
      · exact q1
      · exact h2 q hq, by rw [List.map_cons, h3]⟩
def okT (ks : List (List Int)) : Bool := decide (1 ≤ (ks.headD [0]).length) && ks.all fun k => decide (k.length = (ks.headD [0]).length) && k.all fun m => decide (0 ≤ m)
theorem bd_ex : ∀ ks : List (List Int), (∀ k ∈ ks, ∀ m ∈ k, 0 ≤ m) → ∃ B : Int, ∀ k ∈ ks, TS.Bd B k := by
  have one : ∀ k : List Int, (∀ m ∈ k, 0 ≤ m) → ∃ B : Int, TS.Bd B k := by
    intro k
    induction k with
    | nil => intro _; exact ⟨0, fun m hm => by cases hm⟩
    | cons x k ih =>
      intro h
      obtain ⟨B, hB⟩ := ih fun m hm => h m (List.mem_cons_of_mem _ hm)
      refine ⟨max B (x + 1), fun m hm => ⟨h m hm, ?_⟩⟩
      rcases List.mem_cons.mp hm with rfl | hm
      · omega
      · have := (hB m hm).2
        omega
  intro ks
  induction ks with
  | nil => intro _; exact ⟨0, fun k hk => by cases hk⟩
  | cons k ks ih =>
    intro h
    obtain ⟨B, hB⟩ := ih fun q hq => h q (List.mem_cons_of_mem _ hq)
    obtain ⟨C, hC⟩ := one k (h k List.mem_cons_self)
    refine ⟨max B C, fun q hq m hm => ?_⟩
    rcases List.mem_cons.mp hq with rfl | hq
    · have := hC m hm
      omega
    · have := hB q hq m hm
      omega
def bSortSetT (ds : List D) (g : G) : Out D := match ds with
  | [.list xs] => match asTs xs with
    | some ks => if ks.length < 64 ∧ okT ks = true then .ok (.list ((sortT ks).map tDI)) g else .bad
    | none => .bad
  | _ => .bad
section
variable {X : Cx} {c : Ctx} {W : WX} {pos p p2 q : Pos} {a : Expr} {fs : AF}
theorem d_sortSetT (hc : X.calm = true) (hu : X.A.units + 100 < cLine) (hK : c.K = X.K) (hg : Gl X "sorted") (hm : X.mg "sorted" = none) (hg2 : Gl X "set") (hm2 : X.mg "set" = none) (ha : DA X c W [a] fs)
    (he : starEach [a] X.env = (false, eval a X.env) :: starEach [] X.env := by rfl) (hpl : (backTo q (starEach [] X.env)).any (·.1) = false := by rfl)
    (he2 : starEach [.Call (.Name "set" p2) [a] [] q] X.env = (false, eval (.Call (.Name "set" p2) [a] [] q) X.env) :: starEach [] X.env := by rfl) (hpl2 : (backTo pos (starEach [] X.env)).any (·.1) = false := by rfl) :
    DE X c W (.Call (.Name "sorted" p) [.Call (.Name "set" p2) [a] [] q] [] pos) (eCall bSortSetT fs) :=
  PE.imp (pe_callB (cr_sortedT hc) hg hm (by decide +kernel) (pa_cons (pe_callTy (cr_setOfT hc (by omega)) hg2 hm2 (by decide +kernel) ha (by decide) (by decide) he hpl) pa_nil) (by decide) (by decide) he2 hpl2) fun σ H Q ⟨F, ρ, g, s, h⟩ => ⟨F, ρ, g, s, PostG.bind s h fun ds g1 vs F1 H1 e1 s1 r1 h1 => by
    unfold bSortSetT at h1
    split at h1
    · split at h1
      · rename_i xs ks hks
        obtain ⟨⟨k1, k2⟩, h1⟩ := h1.ite
        obtain ⟨v, rfl, rv⟩ := rep1 r1
        obtain ⟨l, ws, rfl, q1, q2⟩ := rv.list
        rw [asTs_of hks] at q2
        obtain ⟨ps, rfl, hps, h3⟩ := tup_refs hK q2
        have hlen : ps.length = ks.length := by
          have := congrArg List.length h3
          rwa [List.length_map] at this
        unfold okT at k2
        rw [Bool.and_eq_true, decide_eq_true_iff] at k2
        obtain ⟨k2, k3⟩ := k2
        generalize (ks.headD [0]).length = d at k2 k3
        have k4 : ∀ k ∈ ks, k.length = d ∧ ∀ m ∈ k, 0 ≤ m := fun k hk => by
          have z := List.all_eq_true.mp k3 k hk
          rw [Bool.and_eq_true, decide_eq_true_iff] at z
          exact ⟨z.1, fun m hm => of_decide_eq_true (List.all_eq_true.mp z.2 m hm)⟩
        obtain ⟨B, hB⟩ := bd_ex ks fun k hk => (k4 k hk).2
        have gd : ∀ k ∈ ks, gdT d B k := fun k hk => ⟨(k4 k hk).1, hB k hk⟩
        refine ⟨l, ps, rfl, SqL.of (s1.fh _ _ q1), fun z hz => seqT_mono s1.fh (hps z hz), by omega, fun pp L hp a1 a2 => ?_⟩
        have b1 : ∀ z ∈ L, z.2 ∈ ks := fun z hz => by
          rw [← h3]
          exact List.mem_map.mpr ⟨z, a1 z hz, rfl⟩
        have b2 : ∀ k ∈ ks, k ∈ L.map (·.2) := fun k hk => by
          rw [← h3] at hk
          obtain ⟨z, hz, rfl⟩ := List.mem_map.mp hk
          exact a2 z hz
        have E2 := Ext.newM (sa := c.sa) (sb := c.sb) s1.fh hp (o := SetTO X.prog X.w pp L)
        have s2 := s1.ext' E2 (s1.gok.newM hp)
        refine ⟨pp, L, d, B, rfl, upd_same, fun z hz => seqT_mono s2.fh (hps z (a1 z hz)), k2, fun z hz => gd _ (b1 z hz), fun L' p' pm nd few pw hp' => ?_⟩
        have e1 : L'.map (·.2) = sortT ks := by
          refine asc_uniqC (f := TS.code B) ?_ (sortT_asc gd) fun z => ?_
          · rw [List.pairwise_map]
            rw [List.nodup_iff_pairwise_ne, List.pairwise_map] at nd
            refine List.Pairwise.imp_of_mem (fun {q r} hq hr h => ?_) (pw.and nd)
            have o1 := gd _ (b1 q (pm.mem_iff.mp hq))
            have o2 := gd _ (b1 r (pm.mem_iff.mp hr))
            rcases code_tot (o1.1.trans o2.1.symm) o1.2 o2.2 h.2 with z | z
            · exact z
            · have := h.1
              omega
          · rw [sortT_mem]
            constructor
            · intro hz
              obtain ⟨y, hy, rfl⟩ := List.mem_map.mp hz
              exact b1 y (pm.mem_iff.mp hy)
            · intro hz
              obtain ⟨y, hy, e⟩ := List.mem_map.mp (b2 z hz)
              exact List.mem_map.mpr ⟨y, pm.mem_iff.mpr hy, e⟩
        have r3 := refs_pair (K := X.K) (F := F1) L' fun z hz => hps z (a1 z (pm.mem_iff.mp hz))
        have e4 : (L'.map fun z => PyData.tuple (z.2.map PyData.int)) = (sortT ks).map tDI := by rw [← e1, List.map_map]; rfl
        rw [e4, ← hK] at r3
        exact (h1.up E2).newList s2 hp' r3
      · exact h1.elim
    · exact h1.elim⟩
end
end DL
namespace DL
open PySem
open PySem.Spec
open PyProof.Rows
open L2
theorem eV_ap (i : Nat) (ρ : RS) (g : G) : eV i ρ g = match ρ[i]? with
  | some (.d x) => .ok x g
  | _ => .bad := Eq.trans rfl rfl
theorem eC_ap (d : D) (ρ : RS) (g : G) : eC d ρ g = .ok d g := Eq.trans rfl rfl
theorem eBin_ap (φ : D → D → G → Out D) (fa fb : EF) (ρ : RS) (g : G) : eBin φ fa fb ρ g = (fa ρ g).bind fun x g1 => (fb ρ g1).bind fun y g2 => φ x y g2 := Eq.trans rfl rfl
theorem eNeg_ap (fa : EF) (ρ : RS) (g : G) : eNeg fa ρ g = (fa ρ g).bind fun x g1 => match x with
  | .int i => .ok (.int (-i)) g1
  | _ => .bad := Eq.trans rfl rfl
theorem tVal_ap (fa : EF) (ρ : RS) (g : G) : tVal fa ρ g = (fa ρ g).bind fun x g1 => match x with
  | .bool k => .ok k g1
  | _ => .bad := Eq.trans rfl rfl
theorem eIsN_ap (fa : EF) (ρ : RS) (g : G) : eIsN fa ρ g = (fa ρ g).bind fun x g1 => .ok (.bool (isNon x)) g1 := Eq.trans rfl rfl
theorem eNotN_ap (fa : EF) (ρ : RS) (g : G) : eNotN fa ρ g = (fa ρ g).bind fun x g1 => .ok (.bool (!isNon x)) g1 := Eq.trans rfl rfl
theorem eChain_ap (p q : Int → Int → Bool) (fa fb fc : EF) (ρ : RS) (g : G) : eChain p q fa fb fc ρ g = (fa ρ g).bind fun x g1 => (fb ρ g1).bind fun y g2 => match x, y with
  | .int i, .int j => if p i j = true then (fc ρ g2).bind fun z g3 => match z with
      | .int k => .ok (.bool (q j k)) g3
      | _ => .bad
    else .ok (.bool false) g2
  | _, _ => .bad := Eq.trans rfl rfl
theorem tAndF_ap (fa fb : TF) (ρ : RS) (g : G) : tAndF fa fb ρ g = (fa ρ g).bind fun k g1 => if k = true then fb ρ g1 else .ok false g1 := Eq.trans rfl rfl
theorem tOrF_ap (fa fb : TF) (ρ : RS) (g : G) : tOrF fa fb ρ g = (fa ρ g).bind fun k g1 => if k = true then .ok true g1 else fb ρ g1 := Eq.trans rfl rfl
theorem tNotF_ap (fa : TF) (ρ : RS) (g : G) : tNotF fa ρ g = (fa ρ g).bind fun k g1 => .ok (!k) g1 := Eq.trans rfl rfl
theorem tTru_ap (fa : EF) (ρ : RS) (g : G) : tTru fa ρ g = (fa ρ g).bind fun x g1 => match truD x with
  | some k => .ok k g1
  | none => .bad := Eq.trans rfl rfl
theorem eAnd_ap (fa fb : EF) (ρ : RS) (g : G) : eAnd fa fb ρ g = (fa ρ g).bind fun x g1 => match x with
  | .bool k => if k = true then fb ρ g1 else .ok (.bool false) g1
  | _ => .bad := Eq.trans rfl rfl
theorem eOr_ap (fa fb : EF) (ρ : RS) (g : G) : eOr fa fb ρ g = (fa ρ g).bind fun x g1 => match x with
  | .bool k => if k = true then .ok (.bool true) g1 else fb ρ g1
  | _ => .bad := Eq.trans rfl rfl
theorem eNot_ap (fa : EF) (ρ : RS) (g : G) : eNot fa ρ g = (fa ρ g).bind fun x g1 => match x with
  | .bool k => .ok (.bool (!k)) g1
  | _ => .bad := Eq.trans rfl rfl
theorem eIf_ap (t : TF) (fa fb : EF) (ρ : RS) (g : G) : eIf t fa fb ρ g = (t ρ g).bind fun k g1 => if k = true then fa ρ g1 else fb ρ g1 := Eq.trans rfl rfl
theorem aNil_ap (ρ : RS) (g : G) : aNil ρ g = .ok [] g := Eq.trans rfl rfl
theorem aCons_ap (fe : EF) (fs : AF) (ρ : RS) (g : G) : aCons fe fs ρ g = (fe ρ g).bind fun x g1 => (fs ρ g1).bind fun xs g2 => .ok (x :: xs) g2 := Eq.trans rfl rfl
theorem eTup_ap (fs : AF) (ρ : RS) (g : G) : eTup fs ρ g = (fs ρ g).bind fun xs g1 => if noTok xs = true ∧ xs.length ≤ LIM then .ok (.tuple xs) g1 else .bad := Eq.trans rfl rfl
theorem eLst_ap (fs : AF) (ρ : RS) (g : G) : eLst fs ρ g = (fs ρ g).bind fun xs g1 => if noTok xs = true ∧ xs.length ≤ LIM then .ok (.list xs) g1 else .bad := Eq.trans rfl rfl
theorem oNone_ap (ρ : RS) (g : G) : oNone ρ g = .ok none g := Eq.trans rfl rfl
theorem oSome_ap (fe : EF) (ρ : RS) (g : G) : oSome fe ρ g = (fe ρ g).bind fun x g1 => match x with
  | .int i => .ok (some i) g1
  | _ => .bad := Eq.trans rfl rfl
theorem eSl_ap (fa : EF) (fl fh : OF) (ρ : RS) (g : G) : eSl fa fl fh ρ g = (fa ρ g).bind fun x g1 => (fl ρ g1).bind fun lo g2 => (fh ρ g2).bind fun hi g3 => match x with
  | .list xs => .ok (.list (cutD xs lo hi)) g3
  | .tuple xs => .ok (.tuple (cutD xs lo hi)) g3
  | _ => .bad := Eq.trans rfl rfl
theorem eCall_ap (φ : List D → G → Out D) (fs : AF) (ρ : RS) (g : G) : eCall φ fs ρ g = (fs ρ g).bind φ := Eq.trans rfl rfl
theorem iLst_ap (fe : EF) (ρ : RS) (g : G) : iLst fe ρ g = (fe ρ g).bind fun x g1 => match x with
  | .list xs => .ok xs g1
  | _ => .bad := Eq.trans rfl rfl
theorem iTpl_ap (fe : EF) (ρ : RS) (g : G) : iTpl fe ρ g = (fe ρ g).bind fun x g1 => match x with
  | .tuple xs => .ok xs g1
  | _ => .bad := Eq.trans rfl rfl
theorem iRan2_ap (fs : AF) (ρ : RS) (g : G) : iRan2 fs ρ g = (fs ρ g).bind fun xs g1 => match xs with
  | [.int i, .int j] => if -(2 ^ 62) ≤ i ∧ i < 2 ^ 62 ∧ -(2 ^ 62) ≤ j ∧ j < 2 ^ 62 then .ok (upTo i (j - i).toNat) g1 else .bad
  | _ => .bad := Eq.trans rfl rfl
theorem eOf_ap (f : OF') (ρ : RS) (g : G) : eOf f ρ g = (f ρ g).bind fun ds g1 => .ok (.list ds) g1 := Eq.trans rfl rfl
theorem oLst_ap (fs : AF) (ρ : RS) (g : G) : oLst fs ρ g = (fs ρ g).bind fun xs g1 => if noTok xs = true ∧ xs.length ≤ LIM then .ok xs g1 else .bad := Eq.trans rfl rfl
theorem oCat_ap (fa fb : EF) (ρ : RS) (g : G) : oCat fa fb ρ g = (fa ρ g).bind fun x g1 => (fb ρ g1).bind fun y g2 => match x, y with
  | .list i, .list j => if i.length + j.length ≤ LIM then .ok (i ++ j) g2 else .bad
  | _, _ => .bad := Eq.trans rfl rfl
theorem oRep_ap (fa fb : EF) (ρ : RS) (g : G) : oRep fa fb ρ g = (fa ρ g).bind fun x g1 => (fb ρ g1).bind fun y g2 => match x, y with
  | .list xs, .int k => if k ≤ LIM ∧ -(2 ^ 62) ≤ k ∧ xs.length * k.toNat ≤ LIM then .ok (List.replicate k.toNat xs).flatten g2 else .bad
  | _, _ => .bad := Eq.trans rfl rfl
theorem oSl_ap (fa : EF) (fl fh : OF) (ρ : RS) (g : G) : oSl fa fl fh ρ g = (fa ρ g).bind fun x g1 => (fl ρ g1).bind fun lo g2 => (fh ρ g2).bind fun hi g3 => match x with
  | .list xs => .ok (cutD xs lo hi) g3
  | _ => .bad := Eq.trans rfl rfl
theorem oList_ap (fs : AF) (ρ : RS) (g : G) : oList fs ρ g = (fs ρ g).bind fun ds g1 => match ds with
  | [.list xs] => .ok xs g1
  | [.tuple xs] => .ok xs g1
  | _ => .bad := Eq.trans rfl rfl
theorem oComp_ap (vs : List Nat) (fi : LF) (b : BF) (ft : TF) (fe : EF) (ρ : RS) (g : G) : oComp vs fi b ft fe ρ g = (fi ρ g).bind fun items g1 => if items.length ≤ LIM then compF b ft fe (wipeR ρ vs) items g1 else .bad := Eq.trans rfl rfl
theorem tYesF_ap (ρ : RS) (g : G) : tYesF ρ g = .ok true g := Eq.trans rfl rfl
theorem sNil_ap (ρ : RS) (g : G) : sNil ρ g = .nx ρ g := Eq.trans rfl rfl
theorem sSeq_ap (f k : SF) (ρ : RS) (g : G) : sSeq f k ρ g = match f ρ g with
  | .nx ρ' g' => k ρ' g'
  | o => o := Eq.trans rfl rfl
theorem sBrk_ap (ρ : RS) (g : G) : sBrk ρ g = .bk ρ g := Eq.trans rfl rfl
theorem sCnt_ap (ρ : RS) (g : G) : sCnt ρ g = .ct ρ g := Eq.trans rfl rfl
theorem sExpr_ap (fe : EF) (ρ : RS) (g : G) : sExpr fe ρ g = (fe ρ g).go ρ fun _ g1 => .nx ρ g1 := Eq.trans rfl rfl
theorem sRet_ap (fe : EF) (ρ : RS) (g : G) : sRet fe ρ g = (fe ρ g).go ρ fun d g1 => .rt d g1 := Eq.trans rfl rfl
theorem sRetN_ap (ρ : RS) (g : G) : sRetN ρ g = .rt .none g := Eq.trans rfl rfl
theorem sIf_ap (t : TF) (f k : SF) (ρ : RS) (g : G) : sIf t f k ρ g = (t ρ g).go ρ fun b g1 => if b = true then f ρ g1 else k ρ g1 := Eq.trans rfl rfl
theorem sSet_ap (i : Nat) (fe : EF) (ρ : RS) (g : G) : sSet i fe ρ g = (fe ρ g).go ρ fun d g1 => .nx (ρ.set i (.d d)) g1 := Eq.trans rfl rfl
theorem sSetO_ap (i : Nat) (fo : OF') (ρ : RS) (g : G) : sSetO i fo ρ g = (fo ρ g).go ρ fun ds g1 => .nx (ρ.set i (.own ds)) g1 := Eq.trans rfl rfl
theorem sAsg_ap (b : BF) (fe : EF) (ρ : RS) (g : G) : sAsg b fe ρ g = (fe ρ g).go ρ fun d g1 => match b d ρ with
  | some ρ' => .nx ρ' g1
  | none => .bad := Eq.trans rfl rfl
theorem sPar_ap (i j : Nat) (fs : AF) (ρ : RS) (g : G) : sPar i j fs ρ g = (fs ρ g).go ρ fun ds g1 => match ds with
  | [x, y] => .nx ((ρ.set i (.d x)).set j (.d y)) g1
  | _ => .bad := Eq.trans rfl rfl
theorem sPar3_ap (i j l : Nat) (fs : AF) (ρ : RS) (g : G) : sPar3 i j l fs ρ g = (fs ρ g).go ρ fun ds g1 => match ds with
  | [x, y, z] => .nx (((ρ.set i (.d x)).set j (.d y)).set l (.d z)) g1
  | _ => .bad := Eq.trans rfl rfl
theorem sAug_ap (i : Nat) (φ : Int → Int → Int) (fe : EF) (ρ : RS) (g : G) : sAug i φ fe ρ g = match ρ[i]? with
  | some (.d (.int a)) => (fe ρ g).go ρ fun d g1 => match d with
    | .int b => .nx (ρ.set i (.d (.int (φ a b)))) g1
    | _ => .bad
  | _ => .bad := Eq.trans rfl rfl
theorem sApp_ap (i : Nat) (fe : EF) (ρ : RS) (g : G) : sApp i fe ρ g = match ρ[i]? with
  | some (.own xs) => (fe ρ g).go ρ fun d g1 => if xs.length < LIM ∧ noTok [d] = true then .nx (ρ.set i (.own (xs ++ [d]))) g1 else .bad
  | _ => .bad := Eq.trans rfl rfl
theorem sExt_ap (i : Nat) (fe : EF) (ρ : RS) (g : G) : sExt i fe ρ g = match ρ[i]? with
  | some (.own xs) => (fe ρ g).go ρ fun d g1 => match d with
    | .list ys => if xs.length + ys.length ≤ LIM then .nx (ρ.set i (.own (xs ++ ys))) g1 else .bad
    | _ => .bad
  | _ => .bad := Eq.trans rfl rfl
theorem sSetIx_ap (i : Nat) (fe fj : EF) (ρ : RS) (g : G) : sSetIx i fe fj ρ g = match ρ[i]? with
  | some (.own xs) => (fe ρ g).go ρ fun d g1 => (fj ρ g1).go ρ fun j g2 => match j with
    | .int n => match ixN xs.length n with
      | some m => if noTok [d] = true then .nx (ρ.set i (.own (xs.set m d))) g2 else .bad
      | none => .bad
    | _ => .bad
  | _ => .bad := Eq.trans rfl rfl
theorem sFrz_ap (i : Nat) (f : SF) (ρ : RS) (g : G) : sFrz i f ρ g = match ρ[i]? with
  | some (.own xs) => f (ρ.set i (.d (.list xs))) g
  | _ => f ρ g := Eq.trans rfl rfl
theorem eIxO_ap (i : Nat) (fj : EF) (ρ : RS) (g : G) : eIxO i fj ρ g = match ρ[i]? with
  | some (.own xs) => (fj ρ g).bind fun j g1 => match j with
    | .int n => match atI xs n with
      | some d => .ok d g1
      | none => .bad
    | _ => .bad
  | _ => .bad := Eq.trans rfl rfl
theorem eLenO_ap (i : Nat) (ρ : RS) (g : G) : eLenO i ρ g = match ρ[i]? with
  | some (.own xs) => .ok (.int xs.length) g
  | _ => .bad := Eq.trans rfl rfl
theorem eIxA_ap (i : Nat) (fj : EF) (ρ : RS) (g : G) : eIxA i fj ρ g = match ρ[i]? with
  | some (.d x) => (fj ρ g).bind fun j g1 => opIx x j g1
  | _ => eIxO i fj ρ g := Eq.trans rfl rfl
theorem eLenA_ap (i : Nat) (ρ : RS) (g : G) : eLenA i ρ g = match ρ[i]? with
  | some (.d (.list xs)) => .ok (.int xs.length) g
  | _ => eLenO i ρ g := Eq.trans rfl rfl
theorem vOf_ap (fs : AF) (ρ : RS) (g : G) : vOf fs ρ g = (fs ρ g).bind fun ds g1 => .ok (ds.map .d) g1 := Eq.trans rfl rfl
theorem vCons_ap (fe : EF) (fs : VF) (ρ : RS) (g : G) : vCons fe fs ρ g = (fe ρ g).bind fun x g1 => (fs ρ g1).bind fun ss g2 => .ok (.d x :: ss) g2 := Eq.trans rfl rfl
theorem vOwn_ap (fo : OF') (fs : AF) (ρ : RS) (g : G) : vOwn fo fs ρ g = (fo ρ g).bind fun xs g1 => (fs ρ g1).bind fun ds g2 => .ok (.own xs :: ds.map .d) g2 := Eq.trans rfl rfl
theorem vOwn2_ap (fo fo2 : OF') (fs : AF) (ρ : RS) (g : G) : vOwn2 fo fo2 fs ρ g = (fo ρ g).bind fun xs g1 => (vOwn fo2 fs ρ g1).bind fun ss g2 => .ok (.own xs :: ss) g2 := Eq.trans rfl rfl
theorem sTup_ap (is : List Nat) (fv : VF) (ρ : RS) (g : G) : sTup is fv ρ g = (fv ρ g).go ρ fun ss g1 => if ss.length = is.length then .nx (setAll ρ is ss) g1 else .bad := Eq.trans rfl rfl
theorem iSeq_ap (fe : EF) (ρ : RS) (g : G) : iSeq fe ρ g = (fe ρ g).bind fun x g1 => match x with
  | .list xs => .ok xs g1
  | .tuple xs => .ok xs g1
  | _ => .bad := Eq.trans rfl rfl
theorem sRaise_ap (n fld : Str) (fe : EF) (ρ : RS) (g : G) : sRaise n fld fe ρ g = (fe ρ g).go ρ fun d g1 => match d with
  | .str z => if z.length ≤ LIM then .exc n [(fld, .str z)] ρ g1 else .bad
  | _ => .bad := Eq.trans rfl rfl
theorem sTry_ap (i : Nat) (n : Str) (fb fh : SF) (ρ : RS) (g : G) : sTry i n fb fh ρ g = match fb ρ g with
  | .exc m fs ρ1 g1 => if m = n then (if noEx ρ1 = true then (match fh (ρ1.set i (.ex fs)) g1 with
      | .nx ρ2 g2 => if noEx (ρ2.set i .un) = true then .nx (ρ2.set i .un) g2 else .bad
      | .bk ρ2 g2 => if noEx (ρ2.set i .un) = true then .bk (ρ2.set i .un) g2 else .bad
      | .ct ρ2 g2 => if noEx (ρ2.set i .un) = true then .ct (ρ2.set i .un) g2 else .bad
      | .rt d g2 => .rt d g2
      | _ => .bad) else .bad) else .exc m fs ρ1 g1
  | o => o := Eq.trans rfl rfl
theorem eExF_ap (i : Nat) (f : Str) (ρ : RS) (g : G) : eExF i f ρ g = match ρ[i]? with
  | some (.ex fs) => match fs.lookup f with
    | some d => .ok d g
    | none => .bad
  | _ => .bad := Eq.trans rfl rfl
theorem tIfF_ap (t a b : TF) (ρ : RS) (g : G) : tIfF t a b ρ g = (t ρ g).bind fun k g1 => if k = true then a ρ g1 else b ρ g1 := Eq.trans rfl rfl
theorem eRev_ap (fa : EF) (ρ : RS) (g : G) : eRev fa ρ g = (fa ρ g).bind fun x g1 => match x with
  | .list xs => .ok (.list xs.reverse) g1
  | _ => .bad := Eq.trans rfl rfl
theorem eRevF_ap (fa fi : EF) (ρ : RS) (g : G) : eRevF fa fi ρ g = (fa ρ g).bind fun x g1 => match x with
  | .list xs => (fi ρ g1).bind fun y g2 => match y with
    | .int i => .ok (.list (xs.take (rvN xs.length i)).reverse) g2
    | _ => .bad
  | _ => .bad := Eq.trans rfl rfl
def SO.th : SO → (RS → G → SO) → SO
  | .nx ρ g, k => k ρ g
  | o, _ => o
theorem th_nx {ρ : RS} {g : G} {k : RS → G → SO} : (SO.nx ρ g).th k = k ρ g := Eq.trans rfl rfl
theorem th_rt {d : D} {g : G} {k : RS → G → SO} : (SO.rt d g).th k = .rt d g := Eq.trans rfl rfl
theorem th_bk {ρ : RS} {g : G} {k : RS → G → SO} : (SO.bk ρ g).th k = .bk ρ g := Eq.trans rfl rfl
theorem th_ct {ρ : RS} {g : G} {k : RS → G → SO} : (SO.ct ρ g).th k = .ct ρ g := Eq.trans rfl rfl
theorem th_exc {n : Str} {fs : List (Str × D)} {ρ : RS} {g : G} {k : RS → G → SO} : (SO.exc n fs ρ g).th k = .exc n fs ρ g := Eq.trans rfl rfl
theorem sSeq_th (f k : SF) (ρ : RS) (g : G) : sSeq f k ρ g = (f ρ g).th k := by
  unfold sSeq SO.th
  cases f ρ g <;> rfl
theorem bind_ok {α β : Type} {a : α} {g : G} {k : α → G → Out β} : (Out.ok a g).bind k = k a g := Eq.trans rfl rfl
theorem bind_exc {α β : Type} {n : Str} {fs : List (Str × D)} {g : G} {k : α → G → Out β} : (Out.exc n fs g : Out α).bind k = .exc n fs g := Eq.trans rfl rfl
theorem go_ok {α : Type} {a : α} {g : G} {ρ : RS} {k : α → G → SO} : (Out.ok a g).go ρ k = k a g := Eq.trans rfl rfl
theorem go_exc {α : Type} {n : Str} {fs : List (Str × D)} {g : G} {ρ : RS} {k : α → G → SO} : (Out.exc n fs g : Out α).go ρ k = .exc n fs ρ g := Eq.trans rfl rfl
theorem opAdd_int {i j : Int} {g : G} : opAdd (.int i) (.int j) g = .ok (.int (i + j)) g := Eq.trans rfl rfl
theorem opSub_int {i j : Int} {g : G} : opSub (.int i) (.int j) g = .ok (.int (i - j)) g := Eq.trans rfl rfl
theorem opMul_a {i j : Int} {g : G} (h1 : -18446744073709551616 < i) (h2 : i < 18446744073709551616) : opMul (.int i) (.int j) g = .ok (.int (i * j)) g := by
  show (if _ then _ else _) = _
  exact if_pos (.inl ⟨h1, h2⟩)
theorem opMul_b {i j : Int} {g : G} (h1 : -18446744073709551616 < j) (h2 : j < 18446744073709551616) : opMul (.int i) (.int j) g = .ok (.int (i * j)) g := by
  show (if _ then _ else _) = _
  exact if_pos (.inr (.inl ⟨h1, h2⟩))
theorem mulOk_wide {i j : Int} (h1 : i.natAbs < 2 ^ 4000) (h2 : j.natAbs < 2 ^ 4000) : MulOk i j := by
  have l : ∀ n : Nat, n < 2 ^ 4000 → n.log2 < 4000 := fun n h => by
    by_cases hn : n = 0
    · subst hn; decide
    · exact (Nat.log2_lt hn).mpr h
  have := l _ h1
  have := l _ h2
  exact .inr (.inr (by omega))
theorem opMul_ok {i j : Int} {g : G} (h : MulOk i j) : opMul (.int i) (.int j) g = .ok (.int (i * j)) g := by
  show (if _ then _ else _) = _
  exact if_pos h
theorem opDiv_pos {i j : Int} {g : G} (h1 : 0 < j) (h2 : j < 1073741824) : opDiv (.int i) (.int j) g = .ok (.int (i / j)) g := by
  show (if _ then _ else _) = _
  rw [if_pos (.inl ⟨by omega, by omega⟩), Int.fdiv_eq_ediv_of_nonneg i (by omega)]
theorem opDiv_wide {i j : Int} {g : G} (h1 : 0 < j) (h2 : j < 1606938044258990275541962092341162602522202993782792835301376) : opDiv (.int i) (.int j) g = .ok (.int (i / j)) g := by
  have hl : j.natAbs.log2 < 9000 := by
    refine Nat.lt_trans ((Nat.log2_lt (by omega)).mpr (?_ : j.natAbs < 2 ^ 200)) (by decide)
    have e : (2 ^ 200 : Nat) = 1606938044258990275541962092341162602522202993782792835301376 := by decide
    rw [e]
    omega
  show (if _ then _ else _) = _
  rw [if_pos (.inr ⟨h1, hl⟩), Int.fdiv_eq_ediv_of_nonneg i (by omega)]
theorem opMod_pos {i j : Int} {g : G} (h1 : 0 < j) : opMod (.int i) (.int j) g = .ok (.int (i % j)) g := by
  show (if _ then _ else _) = _
  rw [if_pos (by omega), Int.fmod_eq_emod_of_nonneg i (by omega)]
theorem opI_int {p : Int → Int → Bool} {i j : Int} {g : G} : opI p (.int i) (.int j) g = .ok (.bool (p i j)) g := Eq.trans rfl rfl
theorem shp_int {i : Int} : shp (.int i) = true := rfl
theorem shp_bool {i : Bool} : shp (.bool i) = true := rfl
theorem shp_none : shp .none = true := rfl
theorem opEq_shp {x y : D} {g : G} (h1 : shp x = true) (h2 : shp y = true) : opEq x y g = .ok (.bool (PyData.eqv x y)) g := if_pos ⟨h1, h2⟩
theorem opNe_shp {x y : D} {g : G} (h1 : shp x = true) (h2 : shp y = true) : opNe x y g = .ok (.bool (!PyData.eqv x y)) g := if_pos ⟨h1, h2⟩
theorem opEq_int {i j : Int} {g : G} : opEq (.int i) (.int j) g = .ok (.bool (decide (i = j))) g := by
  rw [opEq_shp shp_int shp_int]
  rfl
theorem opNe_int {i j : Int} {g : G} : opNe (.int i) (.int j) g = .ok (.bool (!decide (i = j))) g := by
  rw [opNe_shp shp_int shp_int]
  rfl
theorem opNe_bool {i j : Bool} {g : G} : opNe (.bool i) (.bool j) g = .ok (.bool (!(i == j))) g := by
  rw [opNe_shp shp_bool shp_bool]
  rfl
theorem opEq_bool {i j : Bool} {g : G} : opEq (.bool i) (.bool j) g = .ok (.bool (i == j)) g := by
  rw [opEq_shp shp_bool shp_bool]
  rfl
theorem atI_0 {α : Type} {x : α} {xs : List α} : atI (x :: xs) 0 = some x := atI0 (j := 0) rfl rfl
theorem atI_1 {α : Type} {x y : α} {xs : List α} : atI (x :: y :: xs) 1 = some y := atI0 (j := 1) rfl rfl
theorem atI_2 {α : Type} {x y z : α} {xs : List α} : atI (x :: y :: z :: xs) 2 = some z := atI0 (j := 2) rfl rfl
theorem atI_3 {α : Type} {x y z u : α} {xs : List α} : atI (x :: y :: z :: u :: xs) 3 = some u := atI0 (j := 3) rfl rfl
theorem atI_n {α : Type} {xs : List α} {i : Int} (h0 : 0 ≤ i) : atI xs i = xs[i.toNat]? := by
  by_cases h : i < xs.length
  · have := List.getElem?_eq_getElem (l := xs) (i := i.toNat) (by omega)
    rw [this]
    exact atI0 (j := i.toNat) (by omega) this
  · unfold atI ixN
    rw [if_pos h0, if_neg h, List.getElem?_eq_none (by omega)]
    rfl
theorem atI_neg {α : Type} {xs : List α} {i : Int} (h0 : i < 0) (h1 : 0 ≤ i + xs.length) : atI xs i = xs[(i + xs.length).toNat]? := by
  unfold atI ixN
  rw [if_neg (by omega)]
  split
  · rename_i h
    show xs[_]? = _
    congr 1
    all_goals omega
  · rename_i h
    exact absurd h (by omega)
theorem atI_m1 {α : Type} {xs : List α} {x : α} : atI (xs ++ [x]) (-1) = some x := atI_last xs x
theorem opIx_list {xs : List D} {i : Int} {g : G} : opIx (.list xs) (.int i) g = match atI xs i with | some d => .ok d g | none => .bad := Eq.trans rfl rfl
theorem opIx_tuple {xs : List D} {i : Int} {g : G} : opIx (.tuple xs) (.int i) g = match atI xs i with | some d => .ok d g | none => .bad := Eq.trans rfl rfl
theorem p62 : (2 : Int) ^ 62 = 4611686018427387904 := by decide
def ran1 (xs : List D) (g1 : G) : Out (List D) := match xs with
  | [.int j] => if -(2 ^ 62) ≤ j ∧ j < 2 ^ 62 then .ok (upTo 0 j.toNat) g1 else .bad
  | _ => .bad
def ran2 (xs : List D) (g1 : G) : Out (List D) := match xs with
  | [.int i, .int j] => if -(2 ^ 62) ≤ i ∧ i < 2 ^ 62 ∧ -(2 ^ 62) ≤ j ∧ j < 2 ^ 62 then .ok (upTo i (j - i).toNat) g1 else .bad
  | _ => .bad
theorem ran1_int {j : Int} {g : G} (h1 : -4611686018427387904 ≤ j) (h2 : j < 4611686018427387904) : ran1 [.int j] g = .ok (upTo 0 j.toNat) g := by
  rw [← p62] at h1 h2
  exact if_pos ⟨h1, h2⟩
theorem ran2_int {i j : Int} {g : G} (h1 : -4611686018427387904 ≤ i) (h2 : i < 4611686018427387904) (h3 : -4611686018427387904 ≤ j) (h4 : j < 4611686018427387904) : ran2 [.int i, .int j] g = .ok (upTo i (j - i).toNat) g := by
  rw [← p62] at h1 h2 h3 h4
  exact if_pos ⟨h1, h2, h3, h4⟩
theorem iRan1_ap (fs : AF) (ρ : RS) (g : G) : iRan1 fs ρ g = (fs ρ g).bind ran1 := Eq.trans rfl rfl
theorem iRan2_apN (fs : AF) (ρ : RS) (g : G) : iRan2 fs ρ g = (fs ρ g).bind ran2 := Eq.trans rfl rfl
theorem bLen_list {xs : List D} {g : G} : bLen [.list xs] g = .ok (.int xs.length) g := Eq.trans rfl rfl
theorem bLen_tuple {xs : List D} {g : G} : bLen [.tuple xs] g = .ok (.int xs.length) g := Eq.trans rfl rfl
theorem bInt_int {i : Int} {g : G} : bInt [.int i] g = .ok (.int i) g := Eq.trans rfl rfl
theorem bAbs_int {i : Int} {g : G} : bAbs [.int i] g = .ok (.int (if i < 0 then -i else i)) g := Eq.trans rfl rfl
theorem LIM_eq : LIM = 1000000 := Eq.trans rfl rfl
theorem mOf_run {n np : Nat} {f : SF} {ds : List D} {g : G} (h : ds.length = np) : mOf n np f ds g = runB n f ds g := if_pos h
theorem run_rt {n : Nat} {f : SF} {ds : List D} {g g1 : G} {d : D} (h : f (startR n ds) g = .rt d g1) : runB n f ds g = .ok d g1 := by
  unfold runB
  rw [h]
theorem run_nx {n : Nat} {f : SF} {ds : List D} {g g1 : G} {ρ : RS} (h : f (startR n ds) g = .nx ρ g1) : runB n f ds g = .ok .none g1 := by
  unfold runB
  rw [h]
theorem run_exc {n : Nat} {f : SF} {ds : List D} {g g1 : G} {m : Str} {fs : List (Str × D)} {ρ : RS} (h : f (startR n ds) g = .exc m fs ρ g1) : runB n f ds g = .exc m fs g1 := by
  unfold runB
  rw [h]
theorem m_rt {n np : Nat} {f : SF} {ds : List D} {g g1 : G} {d : D} (hl : ds.length = np) (h : f (startR n ds) g = .rt d g1) : mOf n np f ds g = .ok d g1 := (mOf_run hl).trans (run_rt h)
theorem m_nx {n np : Nat} {f : SF} {ds : List D} {g g1 : G} {ρ : RS} (hl : ds.length = np) (h : f (startR n ds) g = .nx ρ g1) : mOf n np f ds g = .ok .none g1 := (mOf_run hl).trans (run_nx h)
theorem m_exc {n np : Nat} {f : SF} {ds : List D} {g g1 : G} {m : Str} {fs : List (Str × D)} {ρ : RS} (hl : ds.length = np) (h : f (startR n ds) g = .exc m fs ρ g1) : mOf n np f ds g = .exc m fs g1 := (mOf_run hl).trans (run_exc h)
theorem seq_nx {f k : SF} {ρ ρ1 : RS} {g g1 : G} {o : SO} (h : f ρ g = .nx ρ1 g1) (h2 : k ρ1 g1 = o) : sSeq f k ρ g = o := by
  rw [sSeq_th, h]
  exact h2
theorem while_run {t : TF} {f : SF} (P : Nat → RS → G → Prop) (R : RS → G → Prop) (h : ∀ m ρ g, P m ρ g → (t ρ g = .ok false g ∧ R ρ g) ∨ (t ρ g = .ok true g ∧ ∃ m' ρ' g', m' < m ∧ (f ρ g = .nx ρ' g' ∨ f ρ g = .ct ρ' g') ∧ P m' ρ' g')) :
    ∀ n m ρ g, P m ρ g → m < n → ∃ ρ' g', R ρ' g' ∧ whileF t f n ρ g = .nx ρ' g'
  | 0, _, _, _, _, h => absurd h (Nat.not_lt_zero _)
  | n + 1, m, ρ, g, p, hm => by
    rcases h m ρ g p with ⟨h1, r⟩ | ⟨h1, m', ρ', g', h2, h3, h4⟩
    · refine ⟨ρ, g, r, ?_⟩
      unfold whileF
      rw [h1]
      rfl
    · obtain ⟨ρ2, g2, r, e⟩ := while_run P R h n m' ρ' g' h4 (by omega)
      refine ⟨ρ2, g2, r, ?_⟩
      unfold whileF
      rw [h1]
      rcases h3 with h3 | h3
      · simp only [Out.go, if_true, h3]; exact e
      · simp only [Out.go, if_true, h3]; exact e
theorem sWhile_run {t : TF} {f : SF} {N m : Nat} {ρ : RS} {g : G} (P : Nat → RS → G → Prop) (R : RS → G → Prop) (p : P m ρ g) (hm : m < N) (h : ∀ m ρ g, P m ρ g → (t ρ g = .ok false g ∧ R ρ g) ∨ (t ρ g = .ok true g ∧ ∃ m' ρ' g', m' < m ∧ (f ρ g = .nx ρ' g' ∨ f ρ g = .ct ρ' g') ∧ P m' ρ' g')) :
    ∃ ρ' g', R ρ' g' ∧ sWhile N t f ρ g = .nx ρ' g' := while_run P R h N m ρ g p hm
theorem for_run {b : BF} {f : SF} (items : List D) (P : Nat → RS → G → Prop) (h : ∀ i (hi : i < items.length) ρ g, P i ρ g → ∃ ρ1 ρ2 g2, b items[i] ρ = some ρ1 ∧ (f ρ1 g = .nx ρ2 g2 ∨ f ρ1 g = .ct ρ2 g2) ∧ P (i + 1) ρ2 g2) :
    ∀ ρ g, P 0 ρ g → ∃ ρ' g', P items.length ρ' g' ∧ forL b f items ρ g = .nx ρ' g' := by
  have go : ∀ (k : Nat) (xs : List D) (i : Nat), items.drop i = xs → xs.length = k → i ≤ items.length → ∀ ρ g, P i ρ g → ∃ ρ' g', P items.length ρ' g' ∧ forL b f xs ρ g = .nx ρ' g' := by
    intro k
    induction k with
    | zero =>
      intro xs i e hl hi ρ g p
      have : xs = [] := List.length_eq_zero_iff.mp hl
      subst this
      have : i = items.length := by
        have := congrArg List.length e
        rw [List.length_drop] at this
        simp at this
        omega
      subst this
      exact ⟨ρ, g, p, rfl⟩
    | succ k ih =>
      intro xs i e hl hi ρ g p
      have hlt : i < items.length := by
        have := congrArg List.length e
        rw [List.length_drop] at this
        omega
      rw [List.drop_eq_getElem_cons hlt] at e
      subst e
      obtain ⟨ρ1, ρ2, g2, h1, h2, h3⟩ := h i hlt ρ g p
      obtain ⟨ρ', g', h4, h5⟩ := ih (items.drop (i + 1)) (i + 1) rfl (by rw [List.length_cons] at hl; omega) (by omega) ρ2 g2 h3
      refine ⟨ρ', g', h4, ?_⟩
      unfold forL
      rw [h1]
      rcases h2 with h2 | h2
      · simp only [h2]; exact h5
      · simp only [h2]; exact h5
  intro ρ g p
  exact go items.length items 0 rfl rfl (Nat.zero_le _) ρ g p
theorem sFor_run {fi : LF} {b : BF} {f : SF} {items : List D} {ρ : RS} {g g1 : G} (P : Nat → RS → G → Prop) (hi : fi ρ g = .ok items g1) (p : P 0 ρ g1) (h : ∀ i (hi : i < items.length) ρ g, P i ρ g → ∃ ρ1 ρ2 g2, b items[i] ρ = some ρ1 ∧ (f ρ1 g = .nx ρ2 g2 ∨ f ρ1 g = .ct ρ2 g2) ∧ P (i + 1) ρ2 g2) :
    ∃ ρ' g', P items.length ρ' g' ∧ sFor fi b f ρ g = .nx ρ' g' := by
  obtain ⟨ρ', g', h1, h2⟩ := for_run items P h ρ g1 p
  refine ⟨ρ', g', h1, ?_⟩
  unfold sFor
  rw [hi]
  exact h2
theorem upTo_len {lo : Int} {n : Nat} : (upTo lo n).length = n := by
  unfold upTo
  rw [List.length_map, List.length_range]
theorem comp_run {b : BF} {ft : TF} {fe : EF} {ρ : RS} (items : List D) (P : Nat → List D → G → Prop)
    (h : ∀ i (hi : i < items.length) acc g, P i acc g → ∃ ρ1 g1, b items[i] ρ = some ρ1 ∧ ((ft ρ1 g = .ok false g1 ∧ P (i + 1) acc g1) ∨ (ft ρ1 g = .ok true g1 ∧ ∃ d g2, fe ρ1 g1 = .ok d g2 ∧ noTok [d] = true ∧ P (i + 1) (acc ++ [d]) g2))) :
    ∀ g, P 0 [] g → ∃ ds g', P items.length ds g' ∧ compF b ft fe ρ items g = .ok ds g' := by
  have go : ∀ (k : Nat) (xs : List D) (i : Nat), items.drop i = xs → xs.length = k → i ≤ items.length → ∀ acc g, P i acc g → ∃ ds g', P items.length (acc ++ ds) g' ∧ compF b ft fe ρ xs g = .ok ds g' := by
    intro k
    induction k with
    | zero =>
      intro xs i e hl hi acc g p
      have : xs = [] := List.length_eq_zero_iff.mp hl
      subst this
      have : i = items.length := by
        have := congrArg List.length e
        rw [List.length_drop] at this
        simp at this
        omega
      subst this
      exact ⟨[], g, by rw [List.append_nil]; exact p, rfl⟩
    | succ k ih =>
      intro xs i e hl hi acc g p
      have hlt : i < items.length := by
        have := congrArg List.length e
        rw [List.length_drop] at this
        omega
      rw [List.drop_eq_getElem_cons hlt] at e
      subst e
      rw [List.length_cons] at hl
      obtain ⟨ρ1, g1, h1, h2⟩ := h i hlt acc g p
      rcases h2 with ⟨h2, h3⟩ | ⟨h2, d, g2, h3, h4, h5⟩
      · obtain ⟨ds, g', q1, q2⟩ := ih (items.drop (i + 1)) (i + 1) rfl (by omega) (by omega) acc g1 h3
        refine ⟨ds, g', q1, ?_⟩
        simp only [compF, h1, h2]
        exact q2
      · obtain ⟨ds, g', q1, q2⟩ := ih (items.drop (i + 1)) (i + 1) rfl (by omega) (by omega) _ g2 h5
        refine ⟨d :: ds, g', by rw [List.append_assoc] at q1; exact q1, ?_⟩
        simp only [compF, h1, h2, h3, h4, if_true, q2]
        rfl
  intro g p
  obtain ⟨ds, g', h1, h2⟩ := go items.length items 0 rfl rfl (Nat.zero_le _) [] g p
  exact ⟨ds, g', by simpa using h1, h2⟩
theorem oComp_run {vs : List Nat} {fi : LF} {b : BF} {ft : TF} {fe : EF} {ρ : RS} {items : List D} {g g1 : G} (P : Nat → List D → G → Prop) (hi : fi ρ g = .ok items g1) (hl : items.length ≤ LIM) (p : P 0 [] g1)
    (h : ∀ i (hi : i < items.length) acc g, P i acc g → ∃ ρ1 g1, b items[i] (wipeR ρ vs) = some ρ1 ∧ ((ft ρ1 g = .ok false g1 ∧ P (i + 1) acc g1) ∨ (ft ρ1 g = .ok true g1 ∧ ∃ d g2, fe ρ1 g1 = .ok d g2 ∧ noTok [d] = true ∧ P (i + 1) (acc ++ [d]) g2))) :
    ∃ ds g', P items.length ds g' ∧ oComp vs fi b ft fe ρ g = .ok ds g' := by
  obtain ⟨ds, g', h1, h2⟩ := comp_run items P h g1 p
  refine ⟨ds, g', h1, ?_⟩
  show (fi ρ g).bind _ = _
  rw [hi]
  show (if items.length ≤ LIM then _ else _) = _
  rw [if_pos hl]
  exact h2
theorem oComp_map {vs : List Nat} {fi : LF} {b : BF} {ft : TF} {fe : EF} {ρ : RS} {items : List D} {g : G} (vals : List D) (hi : fi ρ g = .ok items g) (hl : items.length ≤ LIM) (hv : vals.length = items.length)
    (h : ∀ i (hi : i < items.length), ∃ ρ1 v, vals[i]? = some v ∧ b items[i] (wipeR ρ vs) = some ρ1 ∧ ft ρ1 g = .ok true g ∧ fe ρ1 g = .ok v g ∧ noTok [v] = true) : oComp vs fi b ft fe ρ g = .ok vals g := by
  obtain ⟨ds, g', ⟨rfl, e⟩, q⟩ := oComp_run (vs := vs) (b := b) (ft := ft) (fe := fe) (fun i acc g' => g' = g ∧ acc = vals.take i) hi hl ⟨rfl, rfl⟩ (fun i hx acc g' ⟨e1, e2⟩ => by
    subst e1 e2
    obtain ⟨ρ1, v, h1, h2, h3, h4, h5⟩ := h i hx
    exact ⟨ρ1, g', h2, .inr ⟨h3, v, g', h4, h5, rfl, by rw [List.take_add_one, h1]; rfl⟩⟩)
  rw [q, e, ← hv, List.take_length]
theorem oComp_none {vs : List Nat} {fi : LF} {b : BF} {ft : TF} {fe : EF} {ρ : RS} {items : List D} {g : G} (hi : fi ρ g = .ok items g) (hl : items.length ≤ LIM)
    (h : ∀ i (hi : i < items.length), ∃ ρ1, b items[i] (wipeR ρ vs) = some ρ1 ∧ ft ρ1 g = .ok false g) : oComp vs fi b ft fe ρ g = .ok [] g := by
  obtain ⟨ds, g', ⟨rfl, rfl⟩, q⟩ := oComp_run (vs := vs) (b := b) (ft := ft) (fe := fe) (fun i acc g' => g' = g ∧ acc = []) hi hl ⟨rfl, rfl⟩ (fun i hx acc g' ⟨e1, e2⟩ => by
    subst e1 e2
    obtain ⟨ρ1, h1, h2⟩ := h i hx
    exact ⟨ρ1, g', h1, .inl ⟨h2, rfl, rfl⟩⟩)
  exact q
abbrev dI (l : List Int) : D := .list (l.map .int)
abbrev dP (p : Int × Int) : D := .tuple [.int p.1, .int p.2]
abbrev dPs (l : List (Int × Int)) : D := .list (l.map dP)
def lay (k : Nat) (d : D) : Prop := d.canLay0 = true ∧ d.depth ≤ k
theorem lay.shp {k : Nat} {d : D} (h : lay k d) (hk : k ≤ 64) : shp d = true := by
  unfold DL.shp SeqAt.shaped
  rw [h.1, Bool.true_and]
  exact decide_eq_true (Nat.le_trans h.2 hk)
theorem lay_int {i : Int} : lay 0 (.int i) := ⟨rfl, Nat.le_refl _⟩
theorem lay_bool {i : Bool} : lay 0 (.bool i) := ⟨rfl, Nat.le_refl _⟩
theorem lay.up {k m : Nat} {d : D} (h : lay k d) (hk : k ≤ m) : lay m d := ⟨h.1, Nat.le_trans h.2 hk⟩
theorem lay_all {k : Nat} : ∀ {xs : List D}, (∀ x ∈ xs, lay k x) → PyData.canLayAll0 xs = true ∧ PyData.depthAll xs ≤ k
  | [], _ => ⟨rfl, Nat.zero_le _⟩
  | x :: xs, h => by
    obtain ⟨h1, h2⟩ := lay_all fun y hy => h y (List.mem_cons_of_mem _ hy)
    obtain ⟨h3, h4⟩ := h x List.mem_cons_self
    refine ⟨?_, ?_⟩
    · rw [PyData.canLayAll0, h1, h3]
      rfl
    · rw [PyData.depthAll]
      exact Nat.max_le.mpr ⟨h4, h2⟩
theorem lay_list {k : Nat} {xs : List D} (h : ∀ x ∈ xs, lay k x) : lay (k + 1) (.list xs) := by
  obtain ⟨h1, h2⟩ := lay_all h
  exact ⟨by rw [PyData.canLay0]; exact h1, by rw [PyData.depth]; omega⟩
theorem lay_tuple {k : Nat} {xs : List D} (h : ∀ x ∈ xs, lay k x) : lay (k + 1) (.tuple xs) := by
  obtain ⟨h1, h2⟩ := lay_all h
  exact ⟨by rw [PyData.canLay0]; exact h1, by rw [PyData.depth]; omega⟩
theorem lay_dI {l : List Int} : lay 1 (dI l) := lay_list fun x hx => by
  obtain ⟨i, _, rfl⟩ := List.mem_map.mp hx
  exact lay_int
theorem lay_dP {p : Int × Int} : lay 1 (dP p) := lay_tuple fun x hx => by
  rcases List.mem_cons.mp hx with rfl | hx
  · exact lay_int
  · rw [List.mem_singleton.mp hx]
    exact lay_int
theorem lay_dPs {l : List (Int × Int)} : lay 2 (dPs l) := lay_list fun x hx => by
  obtain ⟨i, _, rfl⟩ := List.mem_map.mp hx
  exact lay_dP
theorem opNe_dI {a b : List Int} {g : G} : opNe (.list (a.map .int)) (.list (b.map .int)) g = .ok (.bool (!decide (a = b))) g := by
  rw [opNe_shp (lay_dI.shp (by decide)) (lay_dI.shp (by decide)), show PyData.eqv (.list (a.map .int)) (.list (b.map .int)) = decide (a = b) from PySem.W.Datum.eqv (α := List Int) a b]
theorem opEq_dI {a b : List Int} {g : G} : opEq (.list (a.map .int)) (.list (b.map .int)) g = .ok (.bool (decide (a = b))) g := by
  rw [opEq_shp (lay_dI.shp (by decide)) (lay_dI.shp (by decide)), show PyData.eqv (.list (a.map .int)) (.list (b.map .int)) = decide (a = b) from PySem.W.Datum.eqv (α := List Int) a b]
theorem opNe_dP {a b c d : Int} {g : G} : opNe (.tuple [.int a, .int b]) (.tuple [.int c, .int d]) g = .ok (.bool (!decide ((a, b) = (c, d)))) g := by
  rw [opNe_shp ((lay_dP (p := (a, b))).shp (by decide)) ((lay_dP (p := (c, d))).shp (by decide)), show PyData.eqv (.tuple [.int a, .int b]) (.tuple [.int c, .int d]) = decide ((a, b) = (c, d)) from PySem.W.Datum.eqv (α := Int × Int) (a, b) (c, d)]
theorem opEq_dP {a b c d : Int} {g : G} : opEq (.tuple [.int a, .int b]) (.tuple [.int c, .int d]) g = .ok (.bool (decide ((a, b) = (c, d)))) g := by
  rw [opEq_shp ((lay_dP (p := (a, b))).shp (by decide)) ((lay_dP (p := (c, d))).shp (by decide)), show PyData.eqv (.tuple [.int a, .int b]) (.tuple [.int c, .int d]) = decide ((a, b) = (c, d)) from PySem.W.Datum.eqv (α := Int × Int) (a, b) (c, d)]
theorem opNe_dPs {a b : List (Int × Int)} {g : G} : opNe (.list (a.map dP)) (.list (b.map dP)) g = .ok (.bool (!decide (a = b))) g := by
  rw [opNe_shp (lay_dPs.shp (by decide)) (lay_dPs.shp (by decide)), show PyData.eqv (.list (a.map dP)) (.list (b.map dP)) = decide (a = b) from PySem.W.Datum.eqv (α := List (Int × Int)) a b]
theorem sIx_lo {n : Nat} {i : Int} (h0 : 0 ≤ i) : HT.sIx n 0 (some i) = min i.toNat n := by
  have := HT.sIx_nat n 0 i.toNat
  rw [← this]
  congr 2
  omega
theorem cutD_to {xs : List D} {i : Int} (h : 0 ≤ i) : cutD xs none (some i) = xs.take i.toNat := by
  unfold cutD
  have e : HT.sIx xs.length xs.length (some i) = min i.toNat xs.length := by
    have := HT.sIx_nat xs.length xs.length i.toNat
    rw [← this]
    congr 2
    omega
  rw [HT.sIx_none, e, List.drop_zero, Nat.sub_zero]
  by_cases hl : i.toNat ≤ xs.length
  · rw [Nat.min_eq_left hl]
  · rw [Nat.min_eq_right (by omega), List.take_length, List.take_of_length_le (by omega)]
theorem cutD_from {xs : List D} {i : Int} (h : 0 ≤ i) : cutD xs (some i) none = xs.drop i.toNat := by
  unfold cutD
  rw [sIx_lo h, HT.sIx_none]
  by_cases hl : i.toNat ≤ xs.length
  · rw [Nat.min_eq_left hl, List.take_of_length_le (by rw [List.length_drop]; omega)]
  · rw [Nat.min_eq_right (by omega), List.drop_length, List.drop_of_length_le (by omega), List.take_nil]
theorem cutD_neg {xs : List D} {i : Int} (h : i < 0) : cutD xs none (some i) = xs.take (i + xs.length).toNat := by
  unfold cutD
  have e : HT.sIx xs.length xs.length (some i) = (i + xs.length).toNat := by
    show (if i < 0 then _ else _) = _
    rw [if_pos h]
  rw [HT.sIx_none, e, List.drop_zero, Nat.sub_zero]
end DL
namespace K46
open PySem
open PySem.Spec
open PyProof.Rows
open L2
open DL
def topS (i : Nat) : Stmt := PySem.Challenge.pw_formsoftwo_k46_whole_best_parts_and_thre.main.body.getD i (.Pass ⟨0, 0, 0, 0⟩)
abbrev s_is_whole : Stmt := topS 4
abbrev nm_is_whole : List Str := ["value", "low", "high"]
theorem sc_is_whole : FnScope nm_is_whole ["value", "low", "high"] (defScope s_is_whole) := ⟨rfl, rfl, rfl, by decide +kernel, rfl, by decide +kernel, by decide +kernel⟩
abbrev s_best_parts : Stmt := topS 6
abbrev nm_best_parts : List Str := ["above", "below", "most", "found", "best", "k", "near", "gap"]
theorem sc_best_parts : FnScope nm_best_parts ["above", "below", "most"] (defScope s_best_parts) := ⟨rfl, rfl, rfl, by decide +kernel, rfl, by decide +kernel, by decide +kernel⟩
abbrev s_between : Stmt := topS 7
abbrev nm_between : List Str := ["one", "other", "low", "high", "middle"]
theorem sc_between : FnScope nm_between ["one", "other"] (defScope s_between) := ⟨rfl, rfl, rfl, by decide +kernel, rfl, by decide +kernel, by decide +kernel⟩
abbrev s_way_to : Stmt := topS 8
abbrev nm_way_to : List Str := ["above", "below", "low", "high", "found", "middle"]
theorem sc_way_to : FnScope nm_way_to ["above", "below"] (defScope s_way_to) := ⟨rfl, rfl, rfl, by decide +kernel, rfl, by decide +kernel, by decide +kernel⟩
abbrev s_row_of_parts : Stmt := topS 9
abbrev nm_row_of_parts : List Str := ["most", "found", "last", "now", "step"]
theorem sc_row_of_parts : FnScope nm_row_of_parts ["most"] (defScope s_row_of_parts) := ⟨rfl, rfl, rfl, by decide +kernel, rfl, by decide +kernel, by decide +kernel⟩
abbrev s_is_three : Stmt := topS 10
abbrev nm_is_three : List Str := ["value", "x", "y", "z", "k"]
theorem sc_is_three : FnScope nm_is_three ["value"] (defScope s_is_three) := ⟨rfl, rfl, rfl, by decide +kernel, rfl, by decide +kernel, by decide +kernel⟩
abbrev s_beside : Stmt := topS 11
abbrev nm_beside : List Str := ["three", "found", "k", "one", "other", "j"]
theorem sc_beside : FnScope nm_beside ["three"] (defScope s_beside) := ⟨rfl, rfl, rfl, by decide +kernel, rfl, by decide +kernel, by decide +kernel⟩
abbrev s_way_down : Stmt := topS 12
abbrev nm_way_down : List Str := ["three", "found", "x", "y", "z"]
theorem sc_way_down : FnScope nm_way_down ["three"] (defScope s_way_down) := ⟨rfl, rfl, rfl, by decide +kernel, rfl, by decide +kernel, by decide +kernel⟩
abbrev s_threes : Stmt := topS 13
abbrev nm_threes : List Str := ["most", "found", "waiting", "now"]
theorem sc_threes : FnScope nm_threes ["most"] (defScope s_threes) := ⟨rfl, rfl, rfl, by decide +kernel, rfl, by decide +kernel, by decide +kernel⟩
abbrev s__law_state : Stmt := topS 15
abbrev nm__law_state : List Str := ["script", "numbers_left", "cell"]
theorem sc__law_state : FnScope nm__law_state ["script"] (defScope s__law_state) := ⟨rfl, rfl, rfl, by decide +kernel, rfl, by decide +kernel, by decide +kernel⟩
abbrev s__law_take : Stmt := topS 16
abbrev nm__law_take : List Str := ["state", "most", "numbers_left", "at", "cell", "stirred"]
theorem sc__law_take : FnScope nm__law_take ["state", "most"] (defScope s__law_take) := ⟨rfl, rfl, rfl, by decide +kernel, rfl, by decide +kernel, by decide +kernel⟩
abbrev s__law_pick : Stmt := topS 17
abbrev nm__law_pick : List Str := ["state", "row"]
theorem sc__law_pick : FnScope nm__law_pick ["state", "row"] (defScope s__law_pick) := ⟨rfl, rfl, rfl, by decide +kernel, rfl, by decide +kernel, by decide +kernel⟩
abbrev s__law_divisor : Stmt := topS 18
abbrev nm__law_divisor : List Str := ["one", "other"]
theorem sc__law_divisor : FnScope nm__law_divisor ["one", "other"] (defScope s__law_divisor) := ⟨rfl, rfl, rfl, by decide +kernel, rfl, by decide +kernel, by decide +kernel⟩
abbrev s__law_best : Stmt := topS 19
abbrev nm__law_best : List Str := ["above", "below", "most", "found", "gap", "k", "low", "near", "far"]
theorem sc__law_best : FnScope nm__law_best ["above", "below", "most"] (defScope s__law_best) := ⟨rfl, rfl, rfl, by decide +kernel, rfl, by decide +kernel, by decide +kernel⟩
abbrev s__law_between : Stmt := topS 20
abbrev nm__law_between : List Str := ["one", "other", "k", "up"]
theorem sc__law_between : FnScope nm__law_between ["one", "other"] (defScope s__law_between) := ⟨rfl, rfl, rfl, by decide +kernel, rfl, by decide +kernel, by decide +kernel⟩
abbrev s__law_way : Stmt := topS 21
abbrev nm__law_way : List Str := ["text", "low", "high", "sign", "middle"]
theorem sc__law_way : FnScope nm__law_way ["text"] (defScope s__law_way) := ⟨rfl, rfl, rfl, by decide +kernel, rfl, by decide +kernel, by decide +kernel⟩
abbrev s__law_threes : Stmt := topS 22
abbrev nm__law_threes : List Str := ["most", "found", "x", "y", "whole", "root", "z"]
theorem sc__law_threes : FnScope nm__law_threes ["most"] (defScope s__law_threes) := ⟨rfl, rfl, rfl, by decide +kernel, rfl, by decide +kernel, by decide +kernel⟩
abbrev s__law_root : Stmt := topS 23
abbrev nm__law_root : List Str := ["number", "low", "high", "middle"]
theorem sc__law_root : FnScope nm__law_root ["number"] (defScope s__law_root) := ⟨rfl, rfl, rfl, by decide +kernel, rfl, by decide +kernel, by decide +kernel⟩
abbrev s_law : Stmt := topS 24
abbrev nm_law : List Str := ("script" : Str) :: ("state" : Str) :: ("turn" : Str) :: ("most" : Str) :: ("above" : Str) :: ("below" : Str) :: ("bound" : Str) :: ("a" : Str) :: ("b" : Str) :: ("low" : Str) :: ("high" : Str) :: ("told" : Str) :: ("k" : Str) :: ("text" : Str) :: ("goal" : Str) :: ("many" : Str) :: ("every" : Str) :: ("rows" : Str) :: ("size" : Str) :: ("three" : Str) :: ("near" : Str) :: ("one" : Str) :: ("other" : Str) :: ("down" : Str) :: ("free" : Str) :: ("good" : Str) :: ("error" : Str) :: ("odds" : Str) :: ("j" : Str) :: ("odd" : Str) :: []
theorem sc_law : FnScope nm_law ["script"] (defScope s_law) := ⟨rfl, rfl, rfl, by decide +kernel, rfl, by decide +kernel, by decide +kernel⟩
abbrev si_Misstep : Stmt := match topS 2 with
  | .ClassDef (body := b) .. => b.getD 0 (.Pass ⟨0, 0, 0, 0⟩)
  | _ => .Pass ⟨0, 0, 0, 0⟩
structure Top (P : Program) (K : PySem.W.Frag) (mg : Str → Option Value) where
  d_is_whole : Df K mg "is_whole" s_is_whole ["value", "low", "high"]
  d_best_parts : Df K mg "best_parts" s_best_parts ["above", "below", "most"]
  d_between : Df K mg "between" s_between ["one", "other"]
  d_way_to : Df K mg "way_to" s_way_to ["above", "below"]
  d_row_of_parts : Df K mg "row_of_parts" s_row_of_parts ["most"]
  d_is_three : Df K mg "is_three" s_is_three ["value"]
  d_beside : Df K mg "beside" s_beside ["three"]
  d_way_down : Df K mg "way_down" s_way_down ["three"]
  d_threes : Df K mg "threes" s_threes ["most"]
  d__law_state : Df K mg "_law_state" s__law_state ["script"]
  d__law_take : Df K mg "_law_take" s__law_take ["state", "most"]
  d__law_pick : Df K mg "_law_pick" s__law_pick ["state", "row"]
  d__law_divisor : Df K mg "_law_divisor" s__law_divisor ["one", "other"]
  d__law_best : Df K mg "_law_best" s__law_best ["above", "below", "most"]
  d__law_between : Df K mg "_law_between" s__law_between ["one", "other"]
  d__law_way : Df K mg "_law_way" s__law_way ["text"]
  d__law_threes : Df K mg "_law_threes" s__law_threes ["most"]
  d__law_root : Df K mg "_law_root" s__law_root ["number"]
  d_law : Df K mg "law" s_law ["script"]
  b_abs : mg "abs" = none
  b_all : mg "all" = none
  b_bool : mg "bool" = none
  b_int : mg "int" = none
  b_isinstance : mg "isinstance" = none
  b_len : mg "len" = none
  b_range : mg "range" = none
  b_set : mg "set" = none
  b_sorted : mg "sorted" = none
  b_tuple : mg "tuple" = none
  b_super : mg "super" = none
  e_Misstep : Ex K mg P "Misstep" "word" "this may not be done: " si_Misstep
  x_Misstep_Misstep : PySem.W.exmOne K (.ref e_Misstep.C) (.ref e_Misstep.C) = some true
variable {P : Program} {w : World} {K : PySem.W.Frag} {mg : Str → Option Value} {base : Heap}
def clOf (T : Top P K mg) (x : Str) : Option Addr := if x = "Misstep" then some T.e_Misstep.C else none
theorem cl_Misstep (T : Top P K mg) : clOf T "Misstep" = some T.e_Misstep.C := by
  unfold clOf
  rw [if_pos rfl]
theorem hm_Misstep (T : Top P K mg) : ∀ (m : Str) (C : Addr), clOf T m = some C → PySem.W.exmOne K (.ref C) (.ref T.e_Misstep.C) = some (decide (m = "Misstep")) := by
  intro m C h
  unfold clOf at h
  split at h
  · rename_i e
    cases h
    rw [e, T.x_Misstep_Misstep]
    rfl
  cases h
theorem in_Misstep (T : Top P K mg) : FnOk P w K mg base (L2.CX P w) 1 T.e_Misstep.k.f T.e_Misstep.k.fd ["self", "word"] (spI K T.e_Misstep.C "word" "this may not be done: ") :=
  init_ok T.e_Misstep.k ⟨_, _, _, _, _, _, _, _, _, _, _, _, _, rfl, rfl⟩ ⟨rfl, rfl, rfl, rfl, rfl, rfl, rfl, by decide +kernel, fun y h => (by decide +kernel : ∀ x ∈ (defScope si_Misstep).names, x.2 = .free → x.1 = "__class__") _ (PySem.mem_of_lookup h) rfl⟩ (by decide) rfl rfl rfl T.b_super
theorem ok__law_take (T : Top P K mg) : FnD P w K mg base (clOf T) 1 T.d__law_take.f T.d__law_take.fd ["state", "most"] m_take := by
  refine Fun.okX T.d__law_take.F sc__law_take (fun vs H Q E ⟨sa, sb, F, ds, g, h1, h2, h3, h4⟩ => ?_) (fun cdv A outer s H vs Q E hr ⟨sa, sb, F, ds, g, h1, h2, h3, h4⟩ => ?_)
  · obtain ⟨most, rfl, _⟩ := m_take_args (ds := ds) (g := g) (fun e => by rw [e] at h4; exact h4)
    rw [h3.length]
    rfl
  · obtain ⟨most, rfl, hm⟩ := m_take_args (ds := ds) (g := g) (fun e => by rw [e] at h4; exact h4)
    rw [hm] at h4
    cases rep_take h3
    refine ⟨_, pss_cons (ps_if (pt_cmpR op_lt (pv 1) pe_int (nomark _)) (pss_one (ps_ret pe_int)) pss_nil)
      (pss_cons (ps_set (i := 2) sc__law_take.nd rfl (.inl rfl) (pe_ix ix_list (pv 0) pe_int (fun _ _ => rfl)))
      (pss_cons (ps_set (i := 3) sc__law_take.nd rfl (.inl rfl) (pe_op op_mod (pe_callTy call_int1 rfl T.b_int (by decide +kernel) (pa_cons (pe_ix ix_list (pv 0) pe_int (fun _ _ => rfl)) pa_nil)) (pe_callB call_len rfl T.b_len (by decide +kernel) (pa_cons (pv 2) pa_nil))))
      (pss_cons (ps_set (i := 4) sc__law_take.nd rfl (.inl rfl) (pe_ix ix_list (pv 2) (pv 3) (fun _ _ => rfl)))
      (pss_cons (ps_if (pt_cmpR op_ge (pv 4) pe_int (nomark _))
        (pss_cons (ps_asg (pe_op op_fdivW (pv 4) (pv 1)) (pg_sub (pv 2) (pv 3) set_list))
        (pss_one (ps_ret (pe_op op_mod (pe_callTy call_int1 rfl T.b_int (by decide +kernel) (pa_cons (pv 4) pa_nil)) (pv 1))))) pss_nil)
      (pss_cons (ps_asg (pe_op op_add (pe_ix ix_list (pv 0) pe_int (fun _ _ => rfl)) pe_int) (pg_sub (pv 0) pe_int set_list))
      (pss_cons (ps_set (i := 5) sc__law_take.nd rfl (.inl rfl) (pe_op op_mod (pe_callTy call_int1 rfl T.b_int (by decide +kernel) (pa_cons (pe_op op_add (pe_op op_mul (pv 4) pe_int) (pe_op op_mul (pe_ix ix_list (pv 0) pe_int (fun _ _ => rfl)) pe_int)) pa_nil)) pe_int))
      (pss_cons (ps_set (i := 5) sc__law_take.nd rfl (.inl rfl) (pe_op op_mod (pe_callTy call_int1 rfl T.b_int (by decide +kernel) (pa_cons (pe_op op_add (pe_op op_mul (pv 5) pe_int) (pe_op op_mul (pe_ix ix_list (pv 0) pe_int (fun _ _ => rfl)) pe_int)) pa_nil)) pe_int))
      (pss_one (ps_ret (pe_op op_mod (pe_callTy call_int1 rfl T.b_int (by decide +kernel) (pa_cons (pe_op op_fdiv (pv 5) pe_int) pa_nil)) (pv 1))))))))))), ?_⟩
    exact take_run rfl h1 h2 h4 rfl
theorem ok__law_state (T : Top P K mg) : FnOk P w K mg base (L2.CX P w) 1 T.d__law_state.f T.d__law_state.fd ["script"] (spState K) := by
  refine Fun.okX T.d__law_state.F sc__law_state (fun vs H Q E ⟨a, ns, e, _⟩ => by rw [e]; rfl) (fun cdv A outer s H vs Q E hr ⟨a, ns, ev, hS, hl, h4⟩ => ?_)
  subst ev
  refine ⟨_, pss_cons (ps_setLc (i := 1) (own := [("cell", 2)]) rfl sc__law_state.nd rfl rfl (sw_true rfl rfl rfl (by decide +kernel)) (pi_list (pe_slice sl_list (pv 0) po_none (po_some pe_int))) (blkOk_by (N := nm__law_state) (sc := defScope s__law_state) (by decide +kernel)) (fun _ _ _ _ _ => pg_name (i := 2) sc__law_state.nd rfl (.inl rfl)) (fun _ _ _ _ _ => pts_nil) (fun _ _ _ _ _ => pe_callB call_abs rfl T.b_abs (by decide +kernel) (pa_cons (pv 2) pa_nil)))
    (pss_cons (ps_if (pt_cmpR op_eq (pe_callB call_len rfl T.b_len (by decide +kernel) (pa_cons (pv 1) pa_nil)) pe_int (nomark _))
      (pss_one (ps_set (i := 1) sc__law_state.nd rfl (.inl rfl) (pe_lst (pa_cons pe_int pa_nil)))) pss_nil)
    (pss_one (ps_ret (pe_lst (pa_cons pe_int (pa_cons (pv 1) pa_nil)))))), ?_⟩
  exact state_run rfl hS hl h4 rfl
def m__law_take := m_take
def S_is_whole_1 : SF := (sRet (eAnd (eIsi "int" (eV 0)) (eAnd (eNot (eIsi "bool" (eV 0))) (eChain (fun i j => decide (i ≤ j)) (fun i j => decide (i ≤ j)) (eV 1) (eV 0) (eV 2)))))
def sem_is_whole : SF := S_is_whole_1
def m_is_whole : List D → G → Out D := mOf 3 3 sem_is_whole
theorem ok_is_whole (T : Top P K mg) : FnD P w K mg base (clOf T) 1 T.d_is_whole.f T.d_is_whole.fd ["value", "low", "high"] m_is_whole :=
  fn_m T.d_is_whole sc_is_whole rfl rfl fun cdv A outer s H E sa sb F0 H0 hr =>
 (dss_one (ds_ret (d_and (d_isi (T := "int") rfl rfl T.b_isinstance (pa_cons (d_var (pv 0)) (pa_cons (pe_bltn rfl T.b_int (by decide +kernel) rfl) pa_nil))) (d_and (d_not (d_isi (T := "bool") rfl rfl T.b_isinstance (pa_cons (d_var (pv 0)) (pa_cons (pe_bltn rfl T.b_bool (by decide +kernel) rfl) pa_nil)))) (d_one (dcE (d_chain op_le op_le (d_var (pv 1)) (d_var (pv 0)) (d_var (pv 2)))))))))
def S_best_parts_1 : SF := (sTup [3, 4] (vOwn (oLst aNil) (aCons (eC .none) aNil)))
def S_best_parts_3 : SF := (sSet 6 (eBin opDiv (eBin opAdd (eBin opMul (eBin opMul (eC (.int 2)) (eV 0)) (eV 5)) (eV 1)) (eBin opMul (eC (.int 2)) (eV 1))))
def S_best_parts_4 : SF := (sSet 7 (eCall bAbs (aCons (eBin opSub (eBin opMul (eV 0) (eV 5)) (eBin opMul (eV 6) (eV 1))) aNil)))
def S_best_parts_6 : SF := (sSet 4 (eTup (aCons (eV 7) (aCons (eV 5) aNil))))
def S_best_parts_7 : SF := (sApp 3 (eTup (aCons (eV 6) (aCons (eV 5) aNil))))
def S_best_parts_5 : SF := (sIf (tOrF (tVal (eIsN (eV 4))) (tVal (eBin opLt (eBin opMul (eV 7) (eBin opIx (eV 4) (eC (.int 1)))) (eBin opMul (eBin opIx (eV 4) (eC (.int 0))) (eV 5)))))
 (sSeq S_best_parts_6
 S_best_parts_7)
 sNil)
def B_best_parts_2 : SF := (sSeq S_best_parts_3
 (sSeq S_best_parts_4
 S_best_parts_5))
def S_best_parts_2 : SF := (sFor (iRan2 (aCons (eC (.int 1)) (aCons (eBin opAdd (eV 2) (eC (.int 1))) aNil))) (bName 5)
 B_best_parts_2)
def S_best_parts_8 : SF := (sRet (eV 3))
def sem_best_parts : SF := (sSeq S_best_parts_1
 (sSeq S_best_parts_2
 (sFrz 3 S_best_parts_8)))
def m_best_parts : List D → G → Out D := mOf 8 3 sem_best_parts
theorem ok_best_parts (T : Top P K mg) : FnD P w K mg base (clOf T) 1 T.d_best_parts.f T.d_best_parts.fd ["above", "below", "most"] m_best_parts :=
  fn_m T.d_best_parts sc_best_parts rfl rfl fun cdv A outer s H E sa sb F0 H0 hr =>
 (dss_cons (ds_tpar (ps_par (i := 3) (j := 4) rfl sc_best_parts.nd rfl rfl (by decide) rfl rfl (dv_own (o_lst da_nil) (da_cons d_non da_nil)) (by rfl)))
 (dss_cons (ds_for (passes_of rfl) rfl (di_ran2 (by rfl) T.b_range (da_cons d_int (da_cons (d_add rfl (d_var (pv 2)) d_int) da_nil))) (dg_name (pg_name (i := 5) sc_best_parts.nd rfl (.inl rfl)))
 (dss_cons (ds_set (ps_set (i := 6) sc_best_parts.nd rfl (.inl rfl) (d_div (d_add rfl (d_mul (d_mul d_int (d_var (pv 0))) (d_var (pv 5))) (d_var (pv 1))) (d_mul d_int (d_var (pv 1))))))
 (dss_cons (ds_set (ps_set (i := 7) sc_best_parts.nd rfl (.inl rfl) (d_callB call_abs kl_abs rfl T.b_abs (by decide +kernel) (da_cons (d_sub (d_mul (d_var (pv 0)) (d_var (pv 5))) (d_mul (d_var (pv 6)) (d_var (pv 1)))) da_nil))))
 (dss_one (ds_if (dt_w (dw_or (dcT (d_isN (d_var (pv 4)))) (dw_or1 (dcT (d_lt (d_mul (d_var (pv 7)) (d_ix rfl (d_var (pv 4)) d_int)) (d_mul (d_ix rfl (d_var (pv 4)) d_int) (d_var (pv 5))))))))
 (dss_cons (ds_set (ps_set (i := 4) sc_best_parts.nd rfl (.inl rfl) (d_tup (da_cons (d_var (pv 7)) (da_cons (d_var (pv 5)) da_nil)))))
 (dss_one (ds_app (i := 3) (ps_expr (pe_bm PySem.F.plainAttrs_list PySem.F.slot_list_append PySem.F.type_list_append mt_append (pv 3) (pa_cons (d_tup (da_cons (d_var (pv 6)) (da_cons (d_var (pv 5)) da_nil))) pa_nil))))))
 dss_nil)))))
 (dss_frz (i := 3) (dss_one (ds_ret (d_var (pv 3)))))))
def S_between_1 : SF := (sTup [2, 3] (vOf (aCons (eTup (aCons (eC (.int 0)) (aCons (eC (.int 1)) aNil))) (aCons (eTup (aCons (eC (.int 1)) (aCons (eC (.int 0)) aNil))) aNil))))
def S_between_3 : SF := (sSet 4 (eTup (aCons (eBin opAdd (eBin opIx (eV 2) (eC (.int 0))) (eBin opIx (eV 3) (eC (.int 0)))) (aCons (eBin opAdd (eBin opIx (eV 2) (eC (.int 1))) (eBin opIx (eV 3) (eC (.int 1)))) aNil))))
def S_between_5 : SF := (sSet 2 (eV 4))
def S_between_7 : SF := (sSet 3 (eV 4))
def S_between_8 : SF := (sRet (eV 4))
def S_between_6 : SF := (sIf (tVal (eBin opGe (eBin opMul (eBin opIx (eV 4) (eC (.int 0))) (eBin opIx (eV 1) (eC (.int 1)))) (eBin opMul (eBin opIx (eV 1) (eC (.int 0))) (eBin opIx (eV 4) (eC (.int 1))))))
 S_between_7
 S_between_8)
def S_between_4 : SF := (sIf (tVal (eBin opLe (eBin opMul (eBin opIx (eV 4) (eC (.int 0))) (eBin opIx (eV 0) (eC (.int 1)))) (eBin opMul (eBin opIx (eV 0) (eC (.int 0))) (eBin opIx (eV 4) (eC (.int 1))))))
 S_between_5
 S_between_6)
def W_between_2 : TF := (tTru (eC (.bool true)))
def B_between_2 : SF := (sSeq S_between_3
 S_between_4)
def S_between_2 : SF := (sWhile 1000000000000000000000000000000 W_between_2
 B_between_2)
def sem_between : SF := (sSeq S_between_1
 S_between_2)
def m_between : List D → G → Out D := mOf 5 2 sem_between
theorem ok_between (T : Top P K mg) : FnD P w K mg base (clOf T) 1 T.d_between.f T.d_between.fd ["one", "other"] m_between :=
  fn_m T.d_between sc_between rfl rfl fun cdv A outer s H E sa sb F0 H0 hr =>
 (dss_cons (ds_tasg (is := [2, 3]) (ps_asg (pe_tup (dv_of (da_cons (d_tup (da_cons d_int (da_cons d_int da_nil))) (da_cons (d_tup (da_cons d_int (da_cons d_int da_nil))) da_nil)))) (pg_tup rfl (pgs_cons (pg_name (i := 2) sc_between.nd rfl (.inl rfl)) (pgs_cons (pg_name (i := 3) sc_between.nd rfl (.inl rfl)) pgs_nil)))) rfl (by decide))
 (dss_one (ds_while (n := 1000000000000000000000000000000) (passes_of rfl) (dt_tru rfl d_bl)
 (dss_cons (ds_set (ps_set (i := 4) sc_between.nd rfl (.inl rfl) (d_tup (da_cons (d_add rfl (d_ix rfl (d_var (pv 2)) d_int) (d_ix rfl (d_var (pv 3)) d_int)) (da_cons (d_add rfl (d_ix rfl (d_var (pv 2)) d_int) (d_ix rfl (d_var (pv 3)) d_int)) da_nil)))))
 (dss_one (ds_if (dcT (d_le (d_mul (d_ix rfl (d_var (pv 4)) d_int) (d_ix rfl (d_var (pv 0)) d_int)) (d_mul (d_ix rfl (d_var (pv 0)) d_int) (d_ix rfl (d_var (pv 4)) d_int))))
 (dss_one (ds_set (ps_set (i := 2) sc_between.nd rfl (.inl rfl) (d_var (pv 4)))))
 (dss_one (ds_if (dcT (d_ge (d_mul (d_ix rfl (d_var (pv 4)) d_int) (d_ix rfl (d_var (pv 1)) d_int)) (d_mul (d_ix rfl (d_var (pv 1)) d_int) (d_ix rfl (d_var (pv 4)) d_int))))
 (dss_one (ds_set (ps_set (i := 3) sc_between.nd rfl (.inl rfl) (d_var (pv 4)))))
 (dss_one (ds_ret (d_var (pv 4))))))))))))
def S_way_to_1 : SF := (sTup [2, 3, 4] (vOf (aCons (eTup (aCons (eC (.int 0)) (aCons (eC (.int 1)) aNil))) (aCons (eTup (aCons (eC (.int 1)) (aCons (eC (.int 0)) aNil))) (aCons (eC (.str "")) aNil)))))
def S_way_to_3 : SF := (sSet 5 (eTup (aCons (eBin opAdd (eBin opIx (eV 2) (eC (.int 0))) (eBin opIx (eV 3) (eC (.int 0)))) (aCons (eBin opAdd (eBin opIx (eV 2) (eC (.int 1))) (eBin opIx (eV 3) (eC (.int 1)))) aNil))))
def S_way_to_5 : SF := (sRet (eV 4))
def S_way_to_4 : SF := (sIf (tVal (eBin opEq (eBin opMul (eV 0) (eBin opIx (eV 5) (eC (.int 1)))) (eBin opMul (eBin opIx (eV 5) (eC (.int 0))) (eV 1))))
 S_way_to_5
 sNil)
def S_way_to_7 : SF := (sTup [3, 4] (vOf (aCons (eV 5) (aCons (eBin opAdd (eV 4) (eC (.str "L"))) aNil))))
def S_way_to_8 : SF := (sTup [2, 4] (vOf (aCons (eV 5) (aCons (eBin opAdd (eV 4) (eC (.str "R"))) aNil))))
def S_way_to_6 : SF := (sIf (tVal (eBin opLt (eBin opMul (eV 0) (eBin opIx (eV 5) (eC (.int 1)))) (eBin opMul (eBin opIx (eV 5) (eC (.int 0))) (eV 1))))
 S_way_to_7
 S_way_to_8)
def W_way_to_2 : TF := (tTru (eC (.bool true)))
def B_way_to_2 : SF := (sSeq S_way_to_3
 (sSeq S_way_to_4
 S_way_to_6))
def S_way_to_2 : SF := (sWhile 1000000000000000000000000000000 W_way_to_2
 B_way_to_2)
def sem_way_to : SF := (sSeq S_way_to_1
 S_way_to_2)
def m_way_to : List D → G → Out D := mOf 6 2 sem_way_to
theorem ok_way_to (T : Top P K mg) : FnD P w K mg base (clOf T) 1 T.d_way_to.f T.d_way_to.fd ["above", "below"] m_way_to :=
  fn_m T.d_way_to sc_way_to rfl rfl fun cdv A outer s H E sa sb F0 H0 hr =>
 (dss_cons (ds_tasg (is := [2, 3, 4]) (ps_asg (pe_tup (dv_of (da_cons (d_tup (da_cons d_int (da_cons d_int da_nil))) (da_cons (d_tup (da_cons d_int (da_cons d_int da_nil))) (da_cons d_str da_nil))))) (pg_tup rfl (pgs_cons (pg_name (i := 2) sc_way_to.nd rfl (.inl rfl)) (pgs_cons (pg_name (i := 3) sc_way_to.nd rfl (.inl rfl)) (pgs_cons (pg_name (i := 4) sc_way_to.nd rfl (.inl rfl)) pgs_nil))))) rfl (by decide))
 (dss_one (ds_while (n := 1000000000000000000000000000000) (passes_of rfl) (dt_tru rfl d_bl)
 (dss_cons (ds_set (ps_set (i := 5) sc_way_to.nd rfl (.inl rfl) (d_tup (da_cons (d_add rfl (d_ix rfl (d_var (pv 2)) d_int) (d_ix rfl (d_var (pv 3)) d_int)) (da_cons (d_add rfl (d_ix rfl (d_var (pv 2)) d_int) (d_ix rfl (d_var (pv 3)) d_int)) da_nil)))))
 (dss_cons (ds_if (dcT (d_eq rfl (hu65 hr) (d_mul (d_var (pv 0)) (d_ix rfl (d_var (pv 5)) d_int)) (d_mul (d_ix rfl (d_var (pv 5)) d_int) (d_var (pv 1)))))
 (dss_one (ds_ret (d_var (pv 4))))
 dss_nil)
 (dss_one (ds_if (dcT (d_lt (d_mul (d_var (pv 0)) (d_ix rfl (d_var (pv 5)) d_int)) (d_mul (d_ix rfl (d_var (pv 5)) d_int) (d_var (pv 1)))))
 (dss_one (ds_tpar (ps_par (i := 3) (j := 4) rfl sc_way_to.nd rfl rfl (by decide) rfl rfl (dv_of (da_cons (d_var (pv 5)) (da_cons (d_add rfl (d_var (pv 4)) d_str) da_nil))) (by rfl))))
 (dss_one (ds_tpar (ps_par (i := 2) (j := 4) rfl sc_way_to.nd rfl rfl (by decide) rfl rfl (dv_of (da_cons (d_var (pv 5)) (da_cons (d_add rfl (d_var (pv 4)) d_str) da_nil))) (by rfl)))))))))))
def S_row_of_parts_1 : SF := (sTup [1, 2, 3] (vOwn (oLst (aCons (eTup (aCons (eC (.int 0)) (aCons (eC (.int 1)) aNil))) aNil)) (aCons (eTup (aCons (eC (.int 0)) (aCons (eC (.int 1)) aNil))) (aCons (eTup (aCons (eC (.int 1)) (aCons (eV 0) aNil))) aNil))))
def S_row_of_parts_3 : SF := (sApp 1 (eV 3))
def S_row_of_parts_4 : SF := (sSet 4 (eBin opDiv (eBin opAdd (eV 0) (eBin opIx (eV 2) (eC (.int 1)))) (eBin opIx (eV 3) (eC (.int 1)))))
def S_row_of_parts_5 : SF := (sTup [2, 3] (vOf (aCons (eV 3) (aCons (eTup (aCons (eBin opSub (eBin opMul (eV 4) (eBin opIx (eV 3) (eC (.int 0)))) (eBin opIx (eV 2) (eC (.int 0)))) (aCons (eBin opSub (eBin opMul (eV 4) (eBin opIx (eV 3) (eC (.int 1)))) (eBin opIx (eV 2) (eC (.int 1)))) aNil))) aNil))))
def W_row_of_parts_2 : TF := (tVal (eBin opLe (eBin opIx (eV 3) (eC (.int 0))) (eBin opIx (eV 3) (eC (.int 1)))))
def B_row_of_parts_2 : SF := (sSeq S_row_of_parts_3
 (sSeq S_row_of_parts_4
 S_row_of_parts_5))
def S_row_of_parts_2 : SF := (sWhile 1000000000000000000000000000000 W_row_of_parts_2
 B_row_of_parts_2)
def S_row_of_parts_6 : SF := (sRet (eV 1))
def sem_row_of_parts : SF := (sSeq S_row_of_parts_1
 (sSeq S_row_of_parts_2
 (sFrz 1 S_row_of_parts_6)))
def m_row_of_parts : List D → G → Out D := mOf 5 1 sem_row_of_parts
theorem ok_row_of_parts (T : Top P K mg) : FnD P w K mg base (clOf T) 1 T.d_row_of_parts.f T.d_row_of_parts.fd ["most"] m_row_of_parts :=
  fn_m T.d_row_of_parts sc_row_of_parts rfl rfl fun cdv A outer s H E sa sb F0 H0 hr =>
 (dss_cons (ds_tpar3 (ps_par3 (i := 1) (j := 2) (l := 3) rfl sc_row_of_parts.nd rfl rfl rfl (by decide) (by decide) (by decide) rfl rfl rfl (dv_own (o_lst (da_cons (d_tup (da_cons d_int (da_cons d_int da_nil))) da_nil)) (da_cons (d_tup (da_cons d_int (da_cons d_int da_nil))) (da_cons (d_tup (da_cons d_int (da_cons (d_var (pv 0)) da_nil))) da_nil))) (by rfl)))
 (dss_cons (ds_while (n := 1000000000000000000000000000000) (passes_of rfl) (dcT (d_le (d_ix rfl (d_var (pv 3)) d_int) (d_ix rfl (d_var (pv 3)) d_int)))
 (dss_cons (ds_app (i := 1) (ps_expr (pe_bm PySem.F.plainAttrs_list PySem.F.slot_list_append PySem.F.type_list_append mt_append (pv 1) (pa_cons (d_var (pv 3)) pa_nil))))
 (dss_cons (ds_set (ps_set (i := 4) sc_row_of_parts.nd rfl (.inl rfl) (d_div (d_add rfl (d_var (pv 0)) (d_ix rfl (d_var (pv 2)) d_int)) (d_ix rfl (d_var (pv 3)) d_int))))
 (dss_one (ds_tpar (ps_par (i := 2) (j := 3) rfl sc_row_of_parts.nd rfl rfl (by decide) rfl rfl (dv_of (da_cons (d_var (pv 3)) (da_cons (d_tup (da_cons (d_sub (d_mul (d_var (pv 4)) (d_ix rfl (d_var (pv 3)) d_int)) (d_ix rfl (d_var (pv 2)) d_int)) (da_cons (d_sub (d_mul (d_var (pv 4)) (d_ix rfl (d_var (pv 3)) d_int)) (d_ix rfl (d_var (pv 2)) d_int)) da_nil))) da_nil))) (by rfl)))))))
 (dss_frz (i := 1) (dss_one (ds_ret (d_var (pv 1)))))))
def S_beside_1 : SF := (sSetO 1 (oLst aNil))
def C_beside_1 : OF' := oComp [5] (iRan1 (aCons (eC (.int 3)) aNil)) (bName 5) (tVal (eBin opNe (eV 5) (eV 2))) (eBin opIx (eV 0) (eV 5))
def S_beside_3 : SF := (sAsg (bUnl 2 (bCons (bName 3) (bCons (bName 4) bNil))) (eOf C_beside_1))
def S_beside_4 : SF := (sApp 1 (eCall bTuple (aCons (eCall bSortA (aCons (eTup (aCons (eV 3) (aCons (eV 4) (aCons (eBin opSub (eBin opMul (eBin opMul (eC (.int 3)) (eV 3)) (eV 4)) (eBin opIx (eV 0) (eV 2))) aNil)))) aNil)) aNil)))
def B_beside_2 : SF := (sSeq S_beside_3
 S_beside_4)
def S_beside_2 : SF := (sFor (iRan1 (aCons (eC (.int 3)) aNil)) (bName 2)
 B_beside_2)
def S_beside_5 : SF := (sRet (eCall bSortSetT (aCons (eV 1) aNil)))
def sem_beside : SF := (sSeq S_beside_1
 (sSeq S_beside_2
 (sFrz 1 S_beside_5)))
def m_beside : List D → G → Out D := mOf 6 1 sem_beside
theorem ok_beside (T : Top P K mg) : FnD P w K mg base (clOf T) 1 T.d_beside.f T.d_beside.fd ["three"] m_beside :=
  fn_m T.d_beside sc_beside rfl rfl fun cdv A outer s H E sa sb F0 H0 hr =>
 (dss_cons (ds_setO (ps_set (i := 1) sc_beside.nd rfl (.inl rfl) (o_lst da_nil)))
 (dss_cons (ds_for (passes_of rfl) rfl (di_ran1 (by rfl) T.b_range (da_cons d_int da_nil)) (dg_name (pg_name (i := 2) sc_beside.nd rfl (.inr rfl)))
 (dss_cons (ds_asg (d_ofO (o_lc (own := [("j", 5)]) rfl sc_beside.nd (di_ran1 (by rfl) T.b_range (da_cons d_int da_nil)) (blkOk_by (N := nm_beside) (sc := defScope s_beside) (by decide +kernel)) (by decide) (fun _ _ _ _ _ => (dg_name (pg_name (i := 5) sc_beside.nd rfl (.inl rfl)))) (fun _ _ _ _ _ => (dts_one (dcT (d_ne rfl (hu65 hr) (d_var (pv 5)) (d_var (pv 2)))))) (fun _ _ _ _ _ => (d_ix rfl (d_var (pv 0)) (d_var (pv 5)))))) (dg_unl rfl rfl (dgs_cons (dg_name (pg_name (i := 3) sc_beside.nd rfl (.inl rfl))) (dgs_cons (dg_name (pg_name (i := 4) sc_beside.nd rfl (.inl rfl))) dgs_nil))))
 (dss_one (ds_app (i := 1) (ps_expr (pe_bm PySem.F.plainAttrs_list PySem.F.slot_list_append PySem.F.type_list_append mt_append (pv 1) (pa_cons (d_callT call_tuple_of kl_tuple rfl T.b_tuple (by decide +kernel) (da_cons (d_callB (cr_sortedDt (hu100 hr)) kl_sortA rfl T.b_sorted (by decide +kernel) (da_cons (d_tup (da_cons (d_var (pv 3)) (da_cons (d_var (pv 4)) (da_cons (d_sub (d_mul (d_mul d_int (d_var (pv 3))) (d_var (pv 4))) (d_ix rfl (d_var (pv 0)) (d_var (pv 2)))) da_nil)))) da_nil)) da_nil)) pa_nil)))))))
 (dss_frz (i := 1) (dss_one (ds_ret (d_sortSetT rfl (hu100 hr) rfl rfl T.b_sorted rfl T.b_set (da_cons (d_var (pv 1)) da_nil)))))))
def S__law_divisor_2 : SF := (sTup [0, 1] (vOf (aCons (eV 1) (aCons (eBin opMod (eCall bInt (aCons (eV 0) aNil)) (eV 1)) aNil))))
def W__law_divisor_1 : TF := (tVal (eBin opNe (eV 1) (eC (.int 0))))
def B__law_divisor_1 : SF := S__law_divisor_2
def S__law_divisor_1 : SF := (sWhile 1000000000000000000000000000000 W__law_divisor_1
 B__law_divisor_1)
def S__law_divisor_3 : SF := (sRet (eCall bAbs (aCons (eV 0) aNil)))
def sem__law_divisor : SF := (sSeq S__law_divisor_1
 S__law_divisor_3)
def m__law_divisor : List D → G → Out D := mOf 2 2 sem__law_divisor
theorem ok__law_divisor (T : Top P K mg) : FnD P w K mg base (clOf T) 1 T.d__law_divisor.f T.d__law_divisor.fd ["one", "other"] m__law_divisor :=
  fn_m T.d__law_divisor sc__law_divisor rfl rfl fun cdv A outer s H E sa sb F0 H0 hr =>
 (dss_cons (ds_while (n := 1000000000000000000000000000000) (passes_of rfl) (dcT (d_ne rfl (hu65 hr) (d_var (pv 1)) d_int))
 (dss_one (ds_tpar (ps_par (i := 0) (j := 1) rfl sc__law_divisor.nd rfl rfl (by decide) rfl rfl (dv_of (da_cons (d_var (pv 1)) (da_cons (d_mod (d_callT call_int1 kl_int rfl T.b_int (by decide +kernel) (da_cons (d_var (pv 0)) da_nil)) (d_var (pv 1))) da_nil))) (by rfl)))))
 (dss_one (ds_ret (d_callB call_abs kl_abs rfl T.b_abs (by decide +kernel) (da_cons (d_var (pv 0)) da_nil)))))
def S__law_best_1 : SF := (sTup [3, 4] (vOwn (oLst aNil) (aCons (eC .none) aNil)))
def S__law_best_3 : SF := (sSet 6 (eBin opDiv (eBin opMul (eV 0) (eV 5)) (eV 1)))
def S__law_best_4 : SF := (sSet 7 (eIf (tVal (eBin opLt (eBin opSub (eBin opMul (eV 0) (eV 5)) (eBin opMul (eV 6) (eV 1))) (eBin opSub (eBin opMul (eBin opAdd (eV 6) (eC (.int 1))) (eV 1)) (eBin opMul (eV 0) (eV 5))))) (eV 6) (eBin opAdd (eV 6) (eC (.int 1)))))
def S__law_best_5 : SF := (sSet 8 (eCall bAbs (aCons (eBin opSub (eBin opMul (eV 7) (eV 1)) (eBin opMul (eV 0) (eV 5))) aNil)))
def S__law_best_7 : SF := (sSet 4 (eTup (aCons (eV 8) (aCons (eV 5) aNil))))
def S__law_best_8 : SF := (sApp 3 (eTup (aCons (eV 7) (aCons (eV 5) aNil))))
def S__law_best_6 : SF := (sIf (tOrF (tVal (eIsN (eV 4))) (tVal (eBin opLt (eBin opMul (eV 8) (eBin opIx (eV 4) (eC (.int 1)))) (eBin opMul (eBin opIx (eV 4) (eC (.int 0))) (eV 5)))))
 (sSeq S__law_best_7
 S__law_best_8)
 sNil)
def B__law_best_2 : SF := (sSeq S__law_best_3
 (sSeq S__law_best_4
 (sSeq S__law_best_5
 S__law_best_6)))
def S__law_best_2 : SF := (sFor (iRan2 (aCons (eC (.int 1)) (aCons (eBin opAdd (eV 2) (eC (.int 1))) aNil))) (bName 5)
 B__law_best_2)
def S__law_best_9 : SF := (sRet (eV 3))
def sem__law_best : SF := (sSeq S__law_best_1
 (sSeq S__law_best_2
 (sFrz 3 S__law_best_9)))
def m__law_best : List D → G → Out D := mOf 9 3 sem__law_best
theorem ok__law_best (T : Top P K mg) : FnD P w K mg base (clOf T) 1 T.d__law_best.f T.d__law_best.fd ["above", "below", "most"] m__law_best :=
  fn_m T.d__law_best sc__law_best rfl rfl fun cdv A outer s H E sa sb F0 H0 hr =>
 (dss_cons (ds_tpar (ps_par (i := 3) (j := 4) rfl sc__law_best.nd rfl rfl (by decide) rfl rfl (dv_own (o_lst da_nil) (da_cons d_non da_nil)) (by rfl)))
 (dss_cons (ds_for (passes_of rfl) rfl (di_ran2 (by rfl) T.b_range (da_cons d_int (da_cons (d_add rfl (d_var (pv 2)) d_int) da_nil))) (dg_name (pg_name (i := 5) sc__law_best.nd rfl (.inl rfl)))
 (dss_cons (ds_set (ps_set (i := 6) sc__law_best.nd rfl (.inl rfl) (d_div (d_mul (d_var (pv 0)) (d_var (pv 5))) (d_var (pv 1)))))
 (dss_cons (ds_set (ps_set (i := 7) sc__law_best.nd rfl (.inl rfl) (d_if (dcT (d_lt (d_sub (d_mul (d_var (pv 0)) (d_var (pv 5))) (d_mul (d_var (pv 6)) (d_var (pv 1)))) (d_sub (d_mul (d_add rfl (d_var (pv 6)) d_int) (d_var (pv 1))) (d_mul (d_var (pv 0)) (d_var (pv 5)))))) (d_var (pv 6)) (d_add rfl (d_var (pv 6)) d_int))))
 (dss_cons (ds_set (ps_set (i := 8) sc__law_best.nd rfl (.inl rfl) (d_callB call_abs kl_abs rfl T.b_abs (by decide +kernel) (da_cons (d_sub (d_mul (d_var (pv 7)) (d_var (pv 1))) (d_mul (d_var (pv 0)) (d_var (pv 5)))) da_nil))))
 (dss_one (ds_if (dt_w (dw_or (dcT (d_isN (d_var (pv 4)))) (dw_or1 (dcT (d_lt (d_mul (d_var (pv 8)) (d_ix rfl (d_var (pv 4)) d_int)) (d_mul (d_ix rfl (d_var (pv 4)) d_int) (d_var (pv 5))))))))
 (dss_cons (ds_set (ps_set (i := 4) sc__law_best.nd rfl (.inl rfl) (d_tup (da_cons (d_var (pv 8)) (da_cons (d_var (pv 5)) da_nil)))))
 (dss_one (ds_app (i := 3) (ps_expr (pe_bm PySem.F.plainAttrs_list PySem.F.slot_list_append PySem.F.type_list_append mt_append (pv 3) (pa_cons (d_tup (da_cons (d_var (pv 7)) (da_cons (d_var (pv 5)) da_nil))) pa_nil))))))
 dss_nil))))))
 (dss_frz (i := 3) (dss_one (ds_ret (d_var (pv 3)))))))
def S__law_between_2 : SF := (sSet 3 (eBin opAdd (eBin opDiv (eBin opMul (eBin opIx (eV 0) (eC (.int 0))) (eV 2)) (eBin opIx (eV 0) (eC (.int 1)))) (eC (.int 1))))
def S__law_between_4 : SF := (sRet (eTup (aCons (eV 3) (aCons (eV 2) aNil))))
def S__law_between_3 : SF := (sIf (tVal (eBin opLt (eBin opMul (eV 3) (eBin opIx (eV 1) (eC (.int 1)))) (eBin opMul (eBin opIx (eV 1) (eC (.int 0))) (eV 2))))
 S__law_between_4
 sNil)
def B__law_between_1 : SF := (sSeq S__law_between_2
 S__law_between_3)
def S__law_between_1 : SF := (sFor (iRan2 (aCons (eC (.int 1)) (aCons (eC (.int 4000)) aNil))) (bName 2)
 B__law_between_1)
def S__law_between_5 : SF := (sRet (eC .none))
def sem__law_between : SF := (sSeq S__law_between_1
 S__law_between_5)
def m__law_between : List D → G → Out D := mOf 4 2 sem__law_between
theorem ok__law_between (T : Top P K mg) : FnD P w K mg base (clOf T) 1 T.d__law_between.f T.d__law_between.fd ["one", "other"] m__law_between :=
  fn_m T.d__law_between sc__law_between rfl rfl fun cdv A outer s H E sa sb F0 H0 hr =>
 (dss_cons (ds_for (passes_of rfl) rfl (di_ran2 (by rfl) T.b_range (da_cons d_int (da_cons d_int da_nil))) (dg_name (pg_name (i := 2) sc__law_between.nd rfl (.inl rfl)))
 (dss_cons (ds_set (ps_set (i := 3) sc__law_between.nd rfl (.inl rfl) (d_add rfl (d_div (d_mul (d_ix rfl (d_var (pv 0)) d_int) (d_var (pv 2))) (d_ix rfl (d_var (pv 0)) d_int)) d_int)))
 (dss_one (ds_if (dcT (d_lt (d_mul (d_var (pv 3)) (d_ix rfl (d_var (pv 1)) d_int)) (d_mul (d_ix rfl (d_var (pv 1)) d_int) (d_var (pv 2)))))
 (dss_one (ds_ret (d_tup (da_cons (d_var (pv 3)) (da_cons (d_var (pv 2)) da_nil)))))
 dss_nil))))
 (dss_one (ds_ret d_non)))
def S__law_way_1 : SF := (sTup [1, 2] (vOf (aCons (eTup (aCons (eC (.int 0)) (aCons (eC (.int 1)) aNil))) (aCons (eTup (aCons (eC (.int 1)) (aCons (eC (.int 0)) aNil))) aNil))))
def S__law_way_3 : SF := (sSet 4 (eTup (aCons (eBin opAdd (eBin opIx (eV 1) (eC (.int 0))) (eBin opIx (eV 2) (eC (.int 0)))) (aCons (eBin opAdd (eBin opIx (eV 1) (eC (.int 1))) (eBin opIx (eV 2) (eC (.int 1)))) aNil))))
def S__law_way_5 : SF := (sSet 2 (eV 4))
def S__law_way_6 : SF := (sSet 1 (eV 4))
def S__law_way_4 : SF := (sIf (tVal (eBin opEq (eV 3) (eC (.str "L"))))
 S__law_way_5
 S__law_way_6)
def B__law_way_2 : SF := (sSeq S__law_way_3
 S__law_way_4)
def S__law_way_2 : SF := (sFor (iStrS (eV 0)) (bName 3)
 B__law_way_2)
def S__law_way_7 : SF := (sRet (eTup (aCons (eBin opAdd (eBin opIx (eV 1) (eC (.int 0))) (eBin opIx (eV 2) (eC (.int 0)))) (aCons (eBin opAdd (eBin opIx (eV 1) (eC (.int 1))) (eBin opIx (eV 2) (eC (.int 1)))) aNil))))
def sem__law_way : SF := (sSeq S__law_way_1
 (sSeq S__law_way_2
 S__law_way_7))
def m__law_way : List D → G → Out D := mOf 5 1 sem__law_way
theorem ok__law_way (T : Top P K mg) : FnD P w K mg base (clOf T) 1 T.d__law_way.f T.d__law_way.fd ["text"] m__law_way :=
  fn_m T.d__law_way sc__law_way rfl rfl fun cdv A outer s H E sa sb F0 H0 hr =>
 (dss_cons (ds_tasg (is := [1, 2]) (ps_asg (pe_tup (dv_of (da_cons (d_tup (da_cons d_int (da_cons d_int da_nil))) (da_cons (d_tup (da_cons d_int (da_cons d_int da_nil))) da_nil)))) (pg_tup rfl (pgs_cons (pg_name (i := 1) sc__law_way.nd rfl (.inl rfl)) (pgs_cons (pg_name (i := 2) sc__law_way.nd rfl (.inl rfl)) pgs_nil)))) rfl (by decide))
 (dss_cons (ds_for (passes_of rfl) rfl (di_str (d_var (pv 0))) (dg_name (pg_name (i := 3) sc__law_way.nd rfl (.inl rfl)))
 (dss_cons (ds_set (ps_set (i := 4) sc__law_way.nd rfl (.inl rfl) (d_tup (da_cons (d_add rfl (d_ix rfl (d_var (pv 1)) d_int) (d_ix rfl (d_var (pv 2)) d_int)) (da_cons (d_add rfl (d_ix rfl (d_var (pv 1)) d_int) (d_ix rfl (d_var (pv 2)) d_int)) da_nil)))))
 (dss_one (ds_if (dcT (d_eq rfl (hu65 hr) (d_var (pv 3)) d_str))
 (dss_one (ds_set (ps_set (i := 2) sc__law_way.nd rfl (.inl rfl) (d_var (pv 4)))))
 (dss_one (ds_set (ps_set (i := 1) sc__law_way.nd rfl (.inl rfl) (d_var (pv 4)))))))))
 (dss_one (ds_ret (d_tup (da_cons (d_add rfl (d_ix rfl (d_var (pv 1)) d_int) (d_ix rfl (d_var (pv 2)) d_int)) (da_cons (d_add rfl (d_ix rfl (d_var (pv 1)) d_int) (d_ix rfl (d_var (pv 2)) d_int)) da_nil)))))))
def S__law_root_1 : SF := (sTup [1, 2] (vOf (aCons (eC (.int 0)) (aCons (eC (.int 1)) aNil))))
def S__law_root_3 : SF := (sSet 2 (eBin opMul (eV 2) (eC (.int 2))))
def W__law_root_2 : TF := (tVal (eBin opLe (eBin opMul (eV 2) (eV 2)) (eV 0)))
def B__law_root_2 : SF := S__law_root_3
def S__law_root_2 : SF := (sWhile 1000000000000000000000000000000 W__law_root_2
 B__law_root_2)
def S__law_root_5 : SF := (sSet 3 (eBin opDiv (eBin opAdd (eV 1) (eV 2)) (eC (.int 2))))
def S__law_root_7 : SF := (sSet 1 (eV 3))
def S__law_root_8 : SF := (sSet 2 (eV 3))
def S__law_root_6 : SF := (sIf (tVal (eBin opLe (eBin opMul (eV 3) (eV 3)) (eV 0)))
 S__law_root_7
 S__law_root_8)
def W__law_root_4 : TF := (tVal (eBin opGt (eBin opSub (eV 2) (eV 1)) (eC (.int 1))))
def B__law_root_4 : SF := (sSeq S__law_root_5
 S__law_root_6)
def S__law_root_4 : SF := (sWhile 1000000000000000000000000000000 W__law_root_4
 B__law_root_4)
def S__law_root_9 : SF := (sRet (eV 1))
def sem__law_root : SF := (sSeq S__law_root_1
 (sSeq S__law_root_2
 (sSeq S__law_root_4
 S__law_root_9)))
def m__law_root : List D → G → Out D := mOf 4 1 sem__law_root
theorem ok__law_root (T : Top P K mg) : FnD P w K mg base (clOf T) 1 T.d__law_root.f T.d__law_root.fd ["number"] m__law_root :=
  fn_m T.d__law_root sc__law_root rfl rfl fun cdv A outer s H E sa sb F0 H0 hr =>
 (dss_cons (ds_tasg (is := [1, 2]) (ps_asg (pe_tup (dv_of (da_cons d_int (da_cons d_int da_nil)))) (pg_tup rfl (pgs_cons (pg_name (i := 1) sc__law_root.nd rfl (.inl rfl)) (pgs_cons (pg_name (i := 2) sc__law_root.nd rfl (.inl rfl)) pgs_nil)))) rfl (by decide))
 (dss_cons (ds_while (n := 1000000000000000000000000000000) (passes_of rfl) (dcT (d_le (d_mul (d_var (pv 2)) (d_var (pv 2))) (d_var (pv 0))))
 (dss_one (ds_set (ps_set (i := 2) sc__law_root.nd rfl (.inl rfl) (d_mul (d_var (pv 2)) d_int)))))
 (dss_cons (ds_while (n := 1000000000000000000000000000000) (passes_of rfl) (dcT (d_gt (d_sub (d_var (pv 2)) (d_var (pv 1))) d_int))
 (dss_cons (ds_set (ps_set (i := 3) sc__law_root.nd rfl (.inl rfl) (d_div (d_add rfl (d_var (pv 1)) (d_var (pv 2))) d_int)))
 (dss_one (ds_if (dcT (d_le (d_mul (d_var (pv 3)) (d_var (pv 3))) (d_var (pv 0))))
 (dss_one (ds_set (ps_set (i := 1) sc__law_root.nd rfl (.inl rfl) (d_var (pv 3)))))
 (dss_one (ds_set (ps_set (i := 2) sc__law_root.nd rfl (.inl rfl) (d_var (pv 3)))))))))
 (dss_one (ds_ret (d_var (pv 1)))))))
def C_is_three_1 : OF' := oComp [4] (iSeq (eV 0)) (bName 4) tYesF (eCall m_is_whole (aCons (eV 4) (aCons (eC (.int 1)) (aCons (eBin opPow (eC (.int 10)) (eC (.int 18))) aNil))))
def S_is_three_2 : SF := (sRet (eC (.bool false)))
def S_is_three_1 : SF := (sIf (tOrF (tNotF (tTru (eIsi "tuple" (eV 0)))) (tOrF (tVal (eBin opNe (eCall bLen (aCons (eV 0) aNil)) (eC (.int 3)))) (tNotF (tTru (eCall bAll (aCons (eOf C_is_three_1) aNil))))))
 S_is_three_2
 sNil)
def S_is_three_3 : SF := (sAsg (bTup 3 (bCons (bName 1) (bCons (bName 2) (bCons (bName 3) bNil)))) (eV 0))
def S_is_three_4 : SF := (sRet (eAnd (eChain (fun i j => decide (i ≤ j)) (fun i j => decide (i ≤ j)) (eV 1) (eV 2) (eV 3)) (eBin opEq (eBin opAdd (eBin opAdd (eBin opMul (eV 1) (eV 1)) (eBin opMul (eV 2) (eV 2))) (eBin opMul (eV 3) (eV 3))) (eBin opMul (eBin opMul (eBin opMul (eC (.int 3)) (eV 1)) (eV 2)) (eV 3)))))
def sem_is_three : SF := (sSeq S_is_three_1
 (sSeq S_is_three_3
 S_is_three_4))
def m_is_three : List D → G → Out D := mOf 5 1 sem_is_three
theorem ok_is_three (T : Top P K mg) : FnD P w K mg base (clOf T) 2 T.d_is_three.f T.d_is_three.fd ["value"] m_is_three :=
  fn_m T.d_is_three sc_is_three rfl rfl fun cdv A outer s H E sa sb F0 H0 hr =>
 (dss_cons (ds_if (dt_w (dw_or (dt_not (dt_tru rfl (d_isi (T := "tuple") rfl rfl T.b_isinstance (pa_cons (d_var (pv 0)) (pa_cons (pe_bltn rfl T.b_tuple (by decide +kernel) rfl) pa_nil))))) (dw_or (dcT (d_ne rfl (hu65 hr) (d_callB call_len kl_len rfl T.b_len (by decide +kernel) (da_cons (d_var (pv 0)) da_nil)) d_int)) (dw_or1 (dt_not (dt_tru rfl (d_callB (cr_all rfl) kl_all rfl T.b_all (by decide +kernel) (da_cons (d_ofO (o_lc (own := [("k", 4)]) rfl sc_is_three.nd (di_seq rfl (d_var (pv 0))) (blkOk_by (N := nm_is_three) (sc := defScope s_is_three) (by decide +kernel)) (by decide) (fun _ _ _ _ _ => (dg_name (pg_name (i := 4) sc_is_three.nd rfl (.inl rfl)))) (fun _ _ _ _ _ => dts_nil) (fun _ _ _ _ _ => (d_call rfl (ok_is_whole T) (hr.mono (by decide)) rfl T.d_is_whole.g T.d_is_whole.F.kp T.d_is_whole.b takes0 (da_cons (d_var (pv 4)) (da_cons d_int (da_cons (d_pow d_int d_int) da_nil))))))) da_nil))))))))
 (dss_one (ds_ret d_bl))
 dss_nil)
 (dss_cons (ds_asg (d_var (pv 0)) (dg_tup rfl rfl (dgs_cons (dg_name (pg_name (i := 1) sc_is_three.nd rfl (.inl rfl))) (dgs_cons (dg_name (pg_name (i := 2) sc_is_three.nd rfl (.inl rfl))) (dgs_cons (dg_name (pg_name (i := 3) sc_is_three.nd rfl (.inl rfl))) dgs_nil)))))
 (dss_one (ds_ret (d_and (dcE (d_chain op_le op_le (d_var (pv 1)) (d_var (pv 2)) (d_var (pv 3)))) (d_one (dcE (d_eq rfl (hu65 hr) (d_add rfl (d_add rfl (d_mul (d_var (pv 1)) (d_var (pv 1))) (d_mul (d_var (pv 2)) (d_var (pv 2)))) (d_mul (d_var (pv 3)) (d_var (pv 3)))) (d_mul (d_mul (d_mul d_int (d_var (pv 1))) (d_var (pv 2))) (d_var (pv 3)))))))))))
def S_threes_1 : SF := (sTup [1, 2] (vOwnS (oLst (aCons (eTup (aCons (eC (.int 1)) (aCons (eC (.int 1)) (aCons (eC (.int 1)) aNil)))) aNil)) aNil))
def S_threes_3 : SF := (sPop 2 (bName 3))
def S_threes_5 : SF := (sPutS 1 (eV 3) (eC (.bool true)))
def S_threes_6 : SF := (sExt 2 (eCall m_beside (aCons (eV 3) aNil)))
def S_threes_4 : SF := (sIf (tAndF (tVal (eInS (eV 3) 1)) (tVal (eBin opLe (eBin opIx (eV 3) (eC (.int 2))) (eV 0))))
 (sSeq S_threes_5
 S_threes_6)
 sNil)
def W_threes_2 : TF := (tVal (eNeO 2 (eLst aNil)))
def B_threes_2 : SF := (sSeq S_threes_3
 S_threes_4)
def S_threes_2 : SF := (sWhile 1000000000000000000000000000000 W_threes_2
 B_threes_2)
def S_threes_7 : SF := (sRet (eSortS 1))
def sem_threes : SF := (sSeq S_threes_1
 (sSeq S_threes_2
 S_threes_7))
def m_threes : List D → G → Out D := mOf 4 1 sem_threes
theorem ok_threes (T : Top P K mg) : FnD P w K mg base (clOf T) 2 T.d_threes.f T.d_threes.fd ["most"] m_threes :=
  fn_m T.d_threes sc_threes rfl rfl fun cdv A outer s H E sa sb F0 H0 hr =>
 (dss_cons (ds_tpar (ps_par (i := 1) (j := 2) rfl sc_threes.nd rfl rfl (by decide) rfl rfl (dv_ownS pe_dnewS (o_lst (da_cons (d_tup (da_cons d_int (da_cons d_int (da_cons d_int da_nil)))) da_nil)) da_nil) (by rfl)))
 (dss_cons (ds_while (n := 1000000000000000000000000000000) (passes_of rfl) (dcT (d_neO (i := 2) rfl (hu65 hr) (pv 2) (d_lst da_nil)))
 (dss_cons (ds_pop (i := 2) (pe_bm0 PySem.F.plainAttrs_list PySem.F.slot_list_pop PySem.F.type_list_pop mt_pop (pv 2)) (dg_name (pg_name (i := 3) sc_threes.nd rfl (.inl rfl))))
 (dss_one (ds_if (dt_w (dw_and (dcT (d_notInS (i := 1) rfl (hu65 hr) (d_var (pv 3)) (pv 1))) (dw_and1 (dcT (d_le (d_ix rfl (d_var (pv 3)) d_int) (d_var (pv 0)))))))
 (dss_cons (ds_putS (i := 1) rfl (ps_putDs (hu1 hr) (pv 1) (d_var (pv 3)) d_bl rfl))
 (dss_one (ds_ext (i := 2) (ps_expr (pe_bm PySem.F.plainAttrs_list PySem.F.slot_list_extend PySem.F.type_list_extend mt_extend (pv 2) (pa_cons (d_call rfl (ok_beside T) (hr.mono (by decide)) rfl T.d_beside.g T.d_beside.F.kp T.d_beside.b (takes_of rfl rfl rfl rfl) (da_cons (d_var (pv 3)) da_nil)) pa_nil))))))
 dss_nil))))
 (dss_one (ds_ret (d_sortS rfl (pe_callB (cr_sortedDs rfl (hu100 hr)) rfl T.b_sorted (by decide +kernel) (pa_cons (pv 1) pa_nil)))))))
def S__law_pick_1 : SF := (sRet (eBin opIx (eV 1) (eCall m_take (aCons (eV 0) (aCons (eCall bLen (aCons (eV 1) aNil)) aNil)))))
def sem__law_pick : SF := S__law_pick_1
def m__law_pick : List D → G → Out D := mOf 2 2 sem__law_pick
theorem ok__law_pick (T : Top P K mg) : FnD P w K mg base (clOf T) 2 T.d__law_pick.f T.d__law_pick.fd ["state", "row"] m__law_pick :=
  fn_m T.d__law_pick sc__law_pick rfl rfl fun cdv A outer s H E sa sb F0 H0 hr =>
 (dss_one (ds_ret (d_ix rfl (d_var (pv 1)) (d_call rfl (ok__law_take T) (hr.mono (by decide)) rfl T.d__law_take.g T.d__law_take.F.kp T.d__law_take.b (takes_of rfl rfl rfl rfl) (da_cons (d_var (pv 0)) (da_cons (d_callB call_len kl_len rfl T.b_len (by decide +kernel) (da_cons (d_var (pv 1)) da_nil)) da_nil))))))
def S__law_threes_1 : SF := (sSetO 1 (oLst aNil))
def S__law_threes_4 : SF := (sSet 4 (eBin opSub (eBin opMul (eBin opMul (eBin opMul (eBin opMul (eC (.int 9)) (eV 2)) (eV 2)) (eV 3)) (eV 3)) (eBin opMul (eC (.int 4)) (eBin opAdd (eBin opMul (eV 2) (eV 2)) (eBin opMul (eV 3) (eV 3))))))
def S__law_threes_5 : SF := (sSet 5 (eCall m__law_root (aCons (eV 4) aNil)))
def S__law_threes_9 : SF := (sApp 1 (eTup (aCons (eV 2) (aCons (eV 3) (aCons (eV 6) aNil)))))
def S__law_threes_8 : SF := (sIf (tAndF (tVal (eChain (fun i j => decide (i ≤ j)) (fun i j => decide (i ≤ j)) (eV 3) (eV 6) (eV 0))) (tAndF (tVal (eBin opEq (eBin opAdd (eBin opAdd (eBin opMul (eV 2) (eV 2)) (eBin opMul (eV 3) (eV 3))) (eBin opMul (eV 6) (eV 6))) (eBin opMul (eBin opMul (eBin opMul (eC (.int 3)) (eV 2)) (eV 3)) (eV 6)))) (tVal (eInO true (eTup (aCons (eV 2) (aCons (eV 3) (aCons (eV 6) aNil)))) 1))))
 S__law_threes_9
 sNil)
def B__law_threes_7 : SF := S__law_threes_8
def S__law_threes_7 : SF := (sFor (iSeq (eTup (aCons (eBin opDiv (eBin opSub (eBin opMul (eBin opMul (eC (.int 3)) (eV 2)) (eV 3)) (eV 5)) (eC (.int 2))) (aCons (eBin opDiv (eBin opAdd (eBin opMul (eBin opMul (eC (.int 3)) (eV 2)) (eV 3)) (eV 5)) (eC (.int 2))) aNil)))) (bName 6)
 B__law_threes_7)
def S__law_threes_6 : SF := (sIf (tVal (eBin opEq (eBin opMul (eV 5) (eV 5)) (eV 4)))
 S__law_threes_7
 sNil)
def B__law_threes_3 : SF := (sSeq S__law_threes_4
 (sSeq S__law_threes_5
 S__law_threes_6))
def S__law_threes_3 : SF := (sFor (iRan2 (aCons (eV 2) (aCons (eBin opAdd (eV 0) (eC (.int 1))) aNil))) (bName 3)
 B__law_threes_3)
def B__law_threes_2 : SF := S__law_threes_3
def S__law_threes_2 : SF := (sFor (iRan2 (aCons (eC (.int 1)) (aCons (eBin opAdd (eV 0) (eC (.int 1))) aNil))) (bName 2)
 B__law_threes_2)
def S__law_threes_10 : SF := (sRet (eCall bSortA (aCons (eV 1) aNil)))
def sem__law_threes : SF := (sSeq S__law_threes_1
 (sSeq S__law_threes_2
 (sFrz 1 S__law_threes_10)))
def m__law_threes : List D → G → Out D := mOf 7 1 sem__law_threes
theorem ok__law_threes (T : Top P K mg) : FnD P w K mg base (clOf T) 2 T.d__law_threes.f T.d__law_threes.fd ["most"] m__law_threes :=
  fn_m T.d__law_threes sc__law_threes rfl rfl fun cdv A outer s H E sa sb F0 H0 hr =>
 (dss_cons (ds_setO (ps_set (i := 1) sc__law_threes.nd rfl (.inl rfl) (o_lst da_nil)))
 (dss_cons (ds_for (passes_of rfl) rfl (di_ran2 (by rfl) T.b_range (da_cons d_int (da_cons (d_add rfl (d_var (pv 0)) d_int) da_nil))) (dg_name (pg_name (i := 2) sc__law_threes.nd rfl (.inl rfl)))
 (dss_one (ds_for (passes_of rfl) rfl (di_ran2 (by rfl) T.b_range (da_cons (d_var (pv 2)) (da_cons (d_add rfl (d_var (pv 0)) d_int) da_nil))) (dg_name (pg_name (i := 3) sc__law_threes.nd rfl (.inl rfl)))
 (dss_cons (ds_set (ps_set (i := 4) sc__law_threes.nd rfl (.inl rfl) (d_sub (d_mul (d_mul (d_mul (d_mul d_int (d_var (pv 2))) (d_var (pv 2))) (d_var (pv 3))) (d_var (pv 3))) (d_mul d_int (d_add rfl (d_mul (d_var (pv 2)) (d_var (pv 2))) (d_mul (d_var (pv 3)) (d_var (pv 3))))))))
 (dss_cons (ds_set (ps_set (i := 5) sc__law_threes.nd rfl (.inl rfl) (d_call rfl (ok__law_root T) (hr.mono (by decide)) rfl T.d__law_root.g T.d__law_root.F.kp T.d__law_root.b (takes_of rfl rfl rfl rfl) (da_cons (d_var (pv 4)) da_nil))))
 (dss_one (ds_if (dcT (d_eq rfl (hu65 hr) (d_mul (d_var (pv 5)) (d_var (pv 5))) (d_var (pv 4))))
 (dss_one (ds_for (passes_of rfl) rfl (di_seq rfl (d_tup (da_cons (d_div (d_sub (d_mul (d_mul d_int (d_var (pv 2))) (d_var (pv 3))) (d_var (pv 5))) d_int) (da_cons (d_div (d_add rfl (d_mul (d_mul d_int (d_var (pv 2))) (d_var (pv 3))) (d_var (pv 5))) d_int) da_nil)))) (dg_name (pg_name (i := 6) sc__law_threes.nd rfl (.inl rfl)))
 (dss_one (ds_if (dt_w (dw_and (dcT (d_chain op_le op_le (d_var (pv 3)) (d_var (pv 6)) (d_var (pv 0)))) (dw_and (dcT (d_eq rfl (hu65 hr) (d_add rfl (d_add rfl (d_mul (d_var (pv 2)) (d_var (pv 2))) (d_mul (d_var (pv 3)) (d_var (pv 3)))) (d_mul (d_var (pv 6)) (d_var (pv 6)))) (d_mul (d_mul (d_mul d_int (d_var (pv 2))) (d_var (pv 3))) (d_var (pv 6))))) (dw_and1 (dcT (d_notInO (i := 1) rfl (hu65 hr) (d_tup (da_cons (d_var (pv 2)) (da_cons (d_var (pv 3)) (da_cons (d_var (pv 6)) da_nil)))) (pv 1)))))))
 (dss_one (ds_app (i := 1) (ps_expr (pe_bm PySem.F.plainAttrs_list PySem.F.slot_list_append PySem.F.type_list_append mt_append (pv 1) (pa_cons (d_tup (da_cons (d_var (pv 2)) (da_cons (d_var (pv 3)) (da_cons (d_var (pv 6)) da_nil)))) pa_nil)))))
 dss_nil))))
 dss_nil)))))))
 (dss_frz (i := 1) (dss_one (ds_ret (d_callB (cr_sortedDt (hu100 hr)) kl_sortA rfl T.b_sorted (by decide +kernel) (da_cons (d_var (pv 1)) da_nil)))))))
def S_way_down_2 : SF := (sRaise "Misstep" "word" (eC (.str "three")))
def S_way_down_1 : SF := (sIf (tNotF (tTru (eCall m_is_three (aCons (eV 0) aNil))))
 S_way_down_2
 sNil)
def S_way_down_3 : SF := (sSetO 1 (oLst (aCons (eV 0) aNil)))
def S_way_down_5 : SF := (sAsg (bTup 3 (bCons (bName 2) (bCons (bName 3) (bCons (bName 4) bNil)))) (eIxA 1 (eNeg (eC (.int 1)))))
def S_way_down_6 : SF := (sApp 1 (eCall bTuple (aCons (eCall bSortA (aCons (eTup (aCons (eV 2) (aCons (eV 3) (aCons (eBin opSub (eBin opMul (eBin opMul (eC (.int 3)) (eV 2)) (eV 3)) (eV 4)) aNil)))) aNil)) aNil)))
def W_way_down_4 : TF := (tVal (eBin opNe (eIxA 1 (eNeg (eC (.int 1)))) (eTup (aCons (eC (.int 1)) (aCons (eC (.int 1)) (aCons (eC (.int 1)) aNil))))))
def B_way_down_4 : SF := (sSeq S_way_down_5
 S_way_down_6)
def S_way_down_4 : SF := (sWhile 1000000000000000000000000000000 W_way_down_4
 B_way_down_4)
def S_way_down_7 : SF := (sRet (eCall bTuple (aCons (eV 1) aNil)))
def sem_way_down : SF := (sSeq S_way_down_1
 (sSeq S_way_down_3
 (sSeq S_way_down_4
 (sFrz 1 S_way_down_7))))
def m_way_down : List D → G → Out D := mOf 5 1 sem_way_down
theorem ok_way_down (T : Top P K mg) : FnD P w K mg base (clOf T) 3 T.d_way_down.f T.d_way_down.fd ["three"] m_way_down :=
  fn_m T.d_way_down sc_way_down rfl rfl fun cdv A outer s H E sa sb F0 H0 hr =>
 (dss_cons (ds_if (dt_not (dt_tru rfl (d_call rfl (ok_is_three T) (hr.mono (by decide)) rfl T.d_is_three.g T.d_is_three.F.kp T.d_is_three.b (takes_of rfl rfl rfl rfl) (da_cons (d_var (pv 0)) da_nil))))
 (dss_one (ds_raise rfl T.e_Misstep (in_Misstep T) (by decide) (cl_Misstep T) rfl (hr.mono (by decide)) (takes_of rfl rfl rfl rfl) rfl d_str))
 dss_nil)
 (dss_cons (ds_setO (ps_set (i := 1) sc_way_down.nd rfl (.inl rfl) (o_lst (da_cons (d_var (pv 0)) da_nil))))
 (dss_cons (ds_while (n := 1000000000000000000000000000000) (passes_of rfl) (dcT (d_ne rfl (hu65 hr) (d_ixA rfl (pe_ix ix_seq (pv 1) (d_neg d_int) (fun _ _ => rfl))) (d_tup (da_cons d_int (da_cons d_int (da_cons d_int da_nil))))))
 (dss_cons (ds_asg (d_ixA rfl (pe_ix ix_seq (pv 1) (d_neg d_int) (fun _ _ => rfl))) (dg_tup rfl rfl (dgs_cons (dg_name (pg_name (i := 2) sc_way_down.nd rfl (.inl rfl))) (dgs_cons (dg_name (pg_name (i := 3) sc_way_down.nd rfl (.inl rfl))) (dgs_cons (dg_name (pg_name (i := 4) sc_way_down.nd rfl (.inl rfl))) dgs_nil)))))
 (dss_one (ds_app (i := 1) (ps_expr (pe_bm PySem.F.plainAttrs_list PySem.F.slot_list_append PySem.F.type_list_append mt_append (pv 1) (pa_cons (d_callT call_tuple_of kl_tuple rfl T.b_tuple (by decide +kernel) (da_cons (d_callB (cr_sortedDt (hu100 hr)) kl_sortA rfl T.b_sorted (by decide +kernel) (da_cons (d_tup (da_cons (d_var (pv 2)) (da_cons (d_var (pv 3)) (da_cons (d_sub (d_mul (d_mul d_int (d_var (pv 2))) (d_var (pv 3))) (d_var (pv 4))) da_nil)))) da_nil)) da_nil)) pa_nil)))))))
 (dss_frz (i := 1) (dss_one (ds_ret (d_callT call_tuple_of kl_tuple rfl T.b_tuple (by decide +kernel) (da_cons (d_var (pv 1)) da_nil))))))))
def S_law_2 : SF := (sSet 3 (eCall m__law_pick (aCons (eV 1) (aCons (eLst (aCons (eC (.int 9)) (aCons (eC (.int 60)) (aCons (eC (.int 100000)) aNil)))) aNil))))
def S_law_3 : SF := (sTup [4, 5] (vOf (aCons (eCall m_take (aCons (eV 1) (aCons (eV 3) aNil))) (aCons (eBin opAdd (eC (.int 1)) (eCall m_take (aCons (eV 1) (aCons (eV 3) aNil)))) aNil))))
def S_law_4 : SF := (sSet 6 (eBin opAdd (eC (.int 1)) (eCall m_take (aCons (eV 1) (aCons (eC (.int 60)) aNil)))))
def S_law_6 : SF := (sRet (eC (.bool false)))
def S_law_5 : SF := (sIf (tVal (eBin opNe (eCall m_best_parts (aCons (eV 4) (aCons (eV 5) (aCons (eV 6) aNil)))) (eCall m__law_best (aCons (eV 4) (aCons (eV 5) (aCons (eV 6) aNil))))))
 S_law_6
 sNil)
def S_law_7 : SF := (sTup [7, 8] (vOf (aCons (eTup (aCons (eCall m_take (aCons (eV 1) (aCons (eC (.int 40)) aNil))) (aCons (eBin opAdd (eC (.int 1)) (eCall m_take (aCons (eV 1) (aCons (eC (.int 40)) aNil)))) aNil))) (aCons (eTup (aCons (eCall m_take (aCons (eV 1) (aCons (eC (.int 40)) aNil))) (aCons (eBin opAdd (eC (.int 1)) (eCall m_take (aCons (eV 1) (aCons (eC (.int 40)) aNil)))) aNil))) aNil))))
def S_law_9 : SF := (sAsg (bTup 2 (bCons (bName 9) (bCons (bName 10) bNil))) (eIf (tVal (eBin opLt (eBin opMul (eBin opIx (eV 7) (eC (.int 0))) (eBin opIx (eV 8) (eC (.int 1)))) (eBin opMul (eBin opIx (eV 8) (eC (.int 0))) (eBin opIx (eV 7) (eC (.int 1)))))) (eTup (aCons (eV 7) (aCons (eV 8) aNil))) (eTup (aCons (eV 8) (aCons (eV 7) aNil)))))
def S_law_10 : SF := (sSet 11 (eCall m_between (aCons (eV 9) (aCons (eV 10) aNil))))
def S_law_12 : SF := (sRet (eC (.bool false)))
def S_law_11 : SF := (sIf (tOrF (tVal (eBin opNe (eV 11) (eCall m__law_between (aCons (eV 9) (aCons (eV 10) aNil))))) (tVal (eBin opNe (eCall m__law_divisor (aCons (eBin opIx (eV 11) (eC (.int 0))) (aCons (eBin opIx (eV 11) (eC (.int 1))) aNil))) (eC (.int 1)))))
 S_law_12
 sNil)
def S_law_8 : SF := (sIf (tVal (eBin opNe (eBin opMul (eBin opIx (eV 7) (eC (.int 0))) (eBin opIx (eV 8) (eC (.int 1)))) (eBin opMul (eBin opIx (eV 8) (eC (.int 0))) (eBin opIx (eV 7) (eC (.int 1))))))
 (sSeq S_law_9
 (sSeq S_law_10
 S_law_11))
 sNil)
def C_law_1 : OF' := oComp [12] (iRan1 (aCons (eCall m_take (aCons (eV 1) (aCons (eC (.int 12)) aNil))) aNil)) (bName 12) tYesF (eCall m__law_pick (aCons (eV 1) (aCons (eLst (aCons (eC (.str "L")) (aCons (eC (.str "R")) aNil))) aNil)))
def S_law_13 : SF := (sSet 13 (eJoin (eC (.str "")) (eOf C_law_1)))
def S_law_14 : SF := (sSet 14 (eCall m__law_way (aCons (eV 13) aNil)))
def S_law_16 : SF := (sRet (eC (.bool false)))
def S_law_15 : SF := (sIf (tOrF (tVal (eBin opNe (eCall m_way_to (aCons (eBin opIx (eV 14) (eC (.int 0))) (aCons (eBin opIx (eV 14) (eC (.int 1))) aNil))) (eV 13))) (tOrF (tVal (eBin opNe (eCall m__law_divisor (aCons (eBin opIx (eV 14) (eC (.int 0))) (aCons (eBin opIx (eV 14) (eC (.int 1))) aNil))) (eC (.int 1)))) (tVal (eBin opNe (eCall m_way_to (aCons (eBin opMul (eC (.int 3)) (eBin opIx (eV 14) (eC (.int 0)))) (aCons (eBin opMul (eC (.int 3)) (eBin opIx (eV 14) (eC (.int 1)))) aNil))) (eV 13)))))
 S_law_16
 sNil)
def S_law_17 : SF := (sSet 15 (eBin opAdd (eC (.int 1)) (eCall m_take (aCons (eV 1) (aCons (eC (.int 14)) aNil)))))
def S_law_18 : SF := (sSet 16 (eLst aNil))
def C_law_2 : OF' := oComp [28] (iRan1 (aCons (eBin opAdd (eV 12) (eC (.int 1))) aNil)) (bName 28) (tVal (eBin opEq (eCall m__law_divisor (aCons (eV 28) (aCons (eV 12) aNil))) (eC (.int 1)))) (eTup (aCons (eV 28) (aCons (eV 12) aNil)))
def S_law_20 : SF := (sSet 16 (eBin opAdd (eV 16) (eOf C_law_2)))
def B_law_19 : SF := S_law_20
def S_law_19 : SF := (sFor (iRan2 (aCons (eC (.int 1)) (aCons (eBin opAdd (eV 15) (eC (.int 1))) aNil))) (bName 12)
 B_law_19)
def S_law_21 : SF := (sSet 17 (eCall m_row_of_parts (aCons (eV 15) aNil)))
def C_law_3 : OF' := oComp [12] (iRan1 (aCons (eBin opSub (eCall bLen (aCons (eV 17) aNil)) (eC (.int 1))) aNil)) (bName 12) (tVal (eBin opNe (eBin opSub (eBin opMul (eBin opIx (eBin opIx (eV 17) (eBin opAdd (eV 12) (eC (.int 1)))) (eC (.int 0))) (eBin opIx (eBin opIx (eV 17) (eV 12)) (eC (.int 1)))) (eBin opMul (eBin opIx (eBin opIx (eV 17) (eV 12)) (eC (.int 0))) (eBin opIx (eBin opIx (eV 17) (eBin opAdd (eV 12) (eC (.int 1)))) (eC (.int 1))))) (eC (.int 1)))) (eV 12)
def S_law_23 : SF := (sRet (eC (.bool false)))
def S_law_22 : SF := (sIf (tOrF (tVal (eBin opNe (eCall bSortA (aCons (eV 17) aNil)) (eCall bSortA (aCons (eV 16) aNil)))) (tVal (eBin opGt (eCall bLen (aCons (eOf C_law_3) aNil)) (eC (.int 0)))))
 S_law_23
 sNil)
def S_law_24 : SF := (sSet 18 (eBin opAdd (eC (.int 1)) (eCall m_take (aCons (eV 1) (aCons (eC (.int 40)) aNil)))))
def S_law_26 : SF := (sRet (eC (.bool false)))
def S_law_25 : SF := (sIf (tVal (eBin opNe (eCall m_threes (aCons (eV 18) aNil)) (eCall m__law_threes (aCons (eV 18) aNil))))
 S_law_26
 sNil)
def S_law_27 : SF := (sSet 19 (eCall m__law_pick (aCons (eV 1) (aCons (eCall m_threes (aCons (eBin opAdd (eC (.int 1)) (eCall m_take (aCons (eV 1) (aCons (eC (.int 100000)) aNil)))) aNil)) aNil))))
def S_law_29 : SF := (sRet (eC (.bool false)))
def S_law_28 : SF := (sIf (tVal (eBin opNotB (eCall m_is_three (aCons (eV 19) aNil)) (eC (.bool true))))
 S_law_29
 sNil)
def S_law_30 : SF := (sSetO 20 (oLst aNil))
def C_law_4 : OF' := oComp [28] (iRan1 (aCons (eC (.int 3)) aNil)) (bName 28) (tVal (eBin opNe (eV 28) (eV 12))) (eBin opIx (eV 19) (eV 28))
def S_law_32 : SF := (sAsg (bUnl 2 (bCons (bName 21) (bCons (bName 22) bNil))) (eOf C_law_4))
def S_law_33 : SF := (sApp 20 (eCall bTuple (aCons (eCall bSortA (aCons (eTup (aCons (eV 21) (aCons (eV 22) (aCons (eBin opSub (eBin opMul (eBin opMul (eC (.int 3)) (eV 21)) (eV 22)) (eBin opIx (eV 19) (eV 12))) aNil)))) aNil)) aNil)))
def B_law_31 : SF := (sSeq S_law_32
 S_law_33)
def S_law_31 : SF := (sFor (iRan1 (aCons (eC (.int 3)) aNil)) (bName 12)
 B_law_31)
def C_law_5 : OF' := oComp [21] (iSeq (eV 20)) (bName 21) (tVal (eBin opNotB (eCall m_is_three (aCons (eV 21) aNil)) (eC (.bool true)))) (eV 21)
def S_law_35 : SF := (sRet (eC (.bool false)))
def S_law_34 : SF := (sIf (tOrF (tVal (eBin opNe (eCall m_beside (aCons (eV 19) aNil)) (eCall bSortSetT (aCons (eV 20) aNil)))) (tVal (eBin opGt (eCall bLen (aCons (eOf C_law_5) aNil)) (eC (.int 0)))))
 S_law_35
 sNil)
def S_law_36 : SF := (sSet 23 (eCall m_way_down (aCons (eV 19) aNil)))
def C_law_6 : OF' := oComp [12] (iRan1 (aCons (eBin opSub (eCall bLen (aCons (eV 23) aNil)) (eC (.int 1))) aNil)) (bName 12) (tOrF (tVal (eBin (opIn true) (eBin opIx (eV 23) (eBin opAdd (eV 12) (eC (.int 1)))) (eCall m_beside (aCons (eBin opIx (eV 23) (eV 12)) aNil)))) (tAndF (tVal (eBin opGe (eBin opIx (eBin opIx (eV 23) (eBin opAdd (eV 12) (eC (.int 1)))) (eC (.int 2))) (eBin opIx (eBin opIx (eV 23) (eV 12)) (eC (.int 2))))) (tVal (eBin opNe (eBin opIx (eV 23) (eV 12)) (eTup (aCons (eC (.int 1)) (aCons (eC (.int 1)) (aCons (eC (.int 1)) aNil)))))))) (eV 12)
def S_law_38 : SF := (sRet (eC (.bool false)))
def S_law_37 : SF := (sIf (tOrF (tVal (eBin opNe (eBin opIx (eV 23) (eC (.int 0))) (eV 19))) (tOrF (tVal (eBin opNe (eBin opIx (eV 23) (eNeg (eC (.int 1)))) (eTup (aCons (eC (.int 1)) (aCons (eC (.int 1)) (aCons (eC (.int 1)) aNil)))))) (tVal (eBin opGt (eCall bLen (aCons (eOf C_law_6) aNil)) (eC (.int 0))))))
 S_law_38
 sNil)
def C_law_7 : OF' := oComp [12] (iRan1 (aCons (eC (.int 3)) aNil)) (bName 12) tYesF (eBin opAdd (eC (.int 1)) (eCall m_take (aCons (eV 1) (aCons (eC (.int 30)) aNil))))
def S_law_39 : SF := (sSet 24 (eCall bTuple (aCons (eCall bSortA (aCons (eOf C_law_7) aNil)) aNil)))
def S_law_40 : SF := (sSet 25 (eBin opEq (eBin opAdd (eBin opAdd (eBin opMul (eBin opIx (eV 24) (eC (.int 0))) (eBin opIx (eV 24) (eC (.int 0)))) (eBin opMul (eBin opIx (eV 24) (eC (.int 1))) (eBin opIx (eV 24) (eC (.int 1))))) (eBin opMul (eBin opIx (eV 24) (eC (.int 2))) (eBin opIx (eV 24) (eC (.int 2))))) (eBin opMul (eBin opMul (eBin opMul (eC (.int 3)) (eBin opIx (eV 24) (eC (.int 0)))) (eBin opIx (eV 24) (eC (.int 1)))) (eBin opIx (eV 24) (eC (.int 2))))))
def S_law_42 : SF := (sRet (eC (.bool false)))
def S_law_41 : SF := (sIf (tVal (eBin opNe (eCall m_is_three (aCons (eV 24) aNil)) (eV 25)))
 S_law_42
 sNil)
def B_law_1 : SF := (sSeq S_law_2
 (sSeq S_law_3
 (sSeq S_law_4
 (sSeq S_law_5
 (sSeq S_law_7
 (sSeq S_law_8
 (sSeq S_law_13
 (sSeq S_law_14
 (sSeq S_law_15
 (sSeq S_law_17
 (sSeq S_law_18
 (sSeq S_law_19
 (sSeq S_law_21
 (sSeq S_law_22
 (sSeq S_law_24
 (sSeq S_law_25
 (sSeq S_law_27
 (sSeq S_law_28
 (sSeq S_law_30
 (sSeq S_law_31
 (sFrz 20 (sSeq S_law_34
 (sSeq S_law_36
 (sSeq S_law_37
 (sSeq S_law_39
 (sSeq S_law_40
 S_law_41))))))))))))))))))))))))))
def S_law_1 : SF := (sFor (iRan1 (aCons (eC (.int 3)) aNil)) (bName 2)
 B_law_1)
def S_law_44 : SF := (sExpr (eCall m_way_down (aCons (eTup (aCons (eC (.int 1)) (aCons (eC (.int 1)) (aCons (eC (.int 3)) aNil)))) aNil)))
def S_law_45 : SF := (sRet (eC (.bool false)))
def S_law_47 : SF := (sRet (eC (.bool false)))
def S_law_46 : SF := (sIf (tVal (eBin opNe (eExF 26 "word") (eC (.str "three"))))
 S_law_47
 sNil)
def S_law_43 : SF := (sTry 26 "Misstep"
 (sSeq S_law_44
 S_law_45)
 S_law_46)
def S_law_48 : SF := (sSet 27 (eLst (aCons (eC .none) (aCons (eTup aNil) (aCons (eTup (aCons (eC (.int 1)) (aCons (eC (.int 1)) aNil))) (aCons (eLst (aCons (eC (.int 1)) (aCons (eC (.int 1)) (aCons (eC (.int 1)) aNil)))) (aCons (eTup (aCons (eC (.int 1)) (aCons (eC (.int 2)) (aCons (eC (.int 1)) aNil)))) (aCons (eTup (aCons (eC (.int 0)) (aCons (eC (.int 0)) (aCons (eC (.int 0)) aNil)))) (aCons (eTup (aCons (eC (.bool true)) (aCons (eC (.int 1)) (aCons (eC (.int 1)) aNil)))) (aCons (eTup (aCons (eC (.str "1")) (aCons (eC (.int 1)) (aCons (eC (.int 1)) aNil)))) (aCons (eTup (aCons (eC (.int 1)) (aCons (eC (.int 1)) (aCons (eC (.int 1)) (aCons (eC (.int 1)) aNil))))) aNil)))))))))))
def C_law_8 : OF' := oComp [29] (iSeq (eV 27)) (bName 29) tYesF (eBin opIsB (eCall m_is_three (aCons (eV 29) aNil)) (eC (.bool false)))
def S_law_49 : SF := (sRet (eAnd (eCall bAll (aCons (eOf C_law_8) aNil)) (eBin opEq (eCall m_threes (aCons (eC (.int 34)) aNil)) (eLst (aCons (eTup (aCons (eC (.int 1)) (aCons (eC (.int 1)) (aCons (eC (.int 1)) aNil)))) (aCons (eTup (aCons (eC (.int 1)) (aCons (eC (.int 1)) (aCons (eC (.int 2)) aNil)))) (aCons (eTup (aCons (eC (.int 1)) (aCons (eC (.int 2)) (aCons (eC (.int 5)) aNil)))) (aCons (eTup (aCons (eC (.int 1)) (aCons (eC (.int 5)) (aCons (eC (.int 13)) aNil)))) (aCons (eTup (aCons (eC (.int 1)) (aCons (eC (.int 13)) (aCons (eC (.int 34)) aNil)))) (aCons (eTup (aCons (eC (.int 2)) (aCons (eC (.int 5)) (aCons (eC (.int 29)) aNil)))) aNil))))))))))
def sem_law : SF := (sSeq S_law_1
 (sSeq S_law_43
 (sSeq S_law_48
 S_law_49)))
def LawMath : Prop := ∀ cells : List Int, cells ≠ [] → ∃ g, sem_law (.un :: .d tokD :: List.replicate 28 .un) (0, cells) = .rt (.bool true) g
theorem ok_law (hm : LawMath) (T : Top P K mg) : FnOk P w K mg base (L2.CX P w) 4 T.d_law.f T.d_law.fd ["script"] (spLaw K) := by
  refine Fun.okX T.d_law.F sc_law (fun vs H Q E ⟨a, ns, e, _⟩ => by rw [e]; rfl) (fun cdv A outer s H vs Q E hr ⟨a, ns, ev, hS, hl, h4⟩ => ?_)
  subst ev
  exact ⟨_, pss_cons (ps_set (i := 1) sc_law.nd rfl (.inr rfl) (pe_callS (ok__law_state T) (hr.mono (by decide)) rfl T.d__law_state.g T.d__law_state.F.kp T.d__law_state.b (fun σ => passAt (takes_of rfl rfl rfl rfl) σ) (pa_cons (pv 0) pa_nil)))
    (rest_run (K := K) (cl := clOf T) (W := fun cls d _ H => E cls d H) fun sa sb F0 H0 =>
 (dss_cons (ds_for (passes_of rfl) rfl (di_ran1 (by rfl) T.b_range (da_cons d_int da_nil)) (dg_name (pg_name (i := 2) sc_law.nd rfl (.inl rfl)))
 (dss_cons (ds_set (ps_set (i := 3) sc_law.nd rfl (.inl rfl) (d_call rfl (ok__law_pick T) (hr.mono (by decide)) rfl T.d__law_pick.g T.d__law_pick.F.kp T.d__law_pick.b (takes_of rfl rfl rfl rfl) (da_cons (d_var (pv 1)) (da_cons (d_lst (da_cons d_int (da_cons d_int (da_cons d_int da_nil)))) da_nil)))))
 (dss_cons (ds_tpar (ps_par (i := 4) (j := 5) rfl sc_law.nd rfl rfl (by decide) rfl rfl (dv_of (da_cons (d_call rfl (ok__law_take T) (hr.mono (by decide)) rfl T.d__law_take.g T.d__law_take.F.kp T.d__law_take.b (takes_of rfl rfl rfl rfl) (da_cons (d_var (pv 1)) (da_cons (d_var (pv 3)) da_nil))) (da_cons (d_add rfl d_int (d_call rfl (ok__law_take T) (hr.mono (by decide)) rfl T.d__law_take.g T.d__law_take.F.kp T.d__law_take.b (takes_of rfl rfl rfl rfl) (da_cons (d_var (pv 1)) (da_cons (d_var (pv 3)) da_nil)))) da_nil))) (by rfl)))
 (dss_cons (ds_set (ps_set (i := 6) sc_law.nd rfl (.inl rfl) (d_add rfl d_int (d_call rfl (ok__law_take T) (hr.mono (by decide)) rfl T.d__law_take.g T.d__law_take.F.kp T.d__law_take.b (takes_of rfl rfl rfl rfl) (da_cons (d_var (pv 1)) (da_cons d_int da_nil))))))
 (dss_cons (ds_if (dcT (d_ne rfl (hu65 hr) (d_call rfl (ok_best_parts T) (hr.mono (by decide)) rfl T.d_best_parts.g T.d_best_parts.F.kp T.d_best_parts.b (takes_of rfl rfl rfl rfl) (da_cons (d_var (pv 4)) (da_cons (d_var (pv 5)) (da_cons (d_var (pv 6)) da_nil)))) (d_call rfl (ok__law_best T) (hr.mono (by decide)) rfl T.d__law_best.g T.d__law_best.F.kp T.d__law_best.b (takes_of rfl rfl rfl rfl) (da_cons (d_var (pv 4)) (da_cons (d_var (pv 5)) (da_cons (d_var (pv 6)) da_nil))))))
 (dss_one (ds_ret d_bl))
 dss_nil)
 (dss_cons (ds_tpar (ps_par (i := 7) (j := 8) rfl sc_law.nd rfl rfl (by decide) rfl rfl (dv_of (da_cons (d_tup (da_cons (d_call rfl (ok__law_take T) (hr.mono (by decide)) rfl T.d__law_take.g T.d__law_take.F.kp T.d__law_take.b (takes_of rfl rfl rfl rfl) (da_cons (d_var (pv 1)) (da_cons d_int da_nil))) (da_cons (d_add rfl d_int (d_call rfl (ok__law_take T) (hr.mono (by decide)) rfl T.d__law_take.g T.d__law_take.F.kp T.d__law_take.b (takes_of rfl rfl rfl rfl) (da_cons (d_var (pv 1)) (da_cons d_int da_nil)))) da_nil))) (da_cons (d_tup (da_cons (d_call rfl (ok__law_take T) (hr.mono (by decide)) rfl T.d__law_take.g T.d__law_take.F.kp T.d__law_take.b (takes_of rfl rfl rfl rfl) (da_cons (d_var (pv 1)) (da_cons d_int da_nil))) (da_cons (d_add rfl d_int (d_call rfl (ok__law_take T) (hr.mono (by decide)) rfl T.d__law_take.g T.d__law_take.F.kp T.d__law_take.b (takes_of rfl rfl rfl rfl) (da_cons (d_var (pv 1)) (da_cons d_int da_nil)))) da_nil))) da_nil))) (by rfl)))
 (dss_cons (ds_if (dcT (d_ne rfl (hu65 hr) (d_mul (d_ix rfl (d_var (pv 7)) d_int) (d_ix rfl (d_var (pv 8)) d_int)) (d_mul (d_ix rfl (d_var (pv 8)) d_int) (d_ix rfl (d_var (pv 7)) d_int))))
 (dss_cons (ds_asg (d_if (dcT (d_lt (d_mul (d_ix rfl (d_var (pv 7)) d_int) (d_ix rfl (d_var (pv 8)) d_int)) (d_mul (d_ix rfl (d_var (pv 8)) d_int) (d_ix rfl (d_var (pv 7)) d_int)))) (d_tup (da_cons (d_var (pv 7)) (da_cons (d_var (pv 8)) da_nil))) (d_tup (da_cons (d_var (pv 8)) (da_cons (d_var (pv 7)) da_nil)))) (dg_tup rfl rfl (dgs_cons (dg_name (pg_name (i := 9) sc_law.nd rfl (.inl rfl))) (dgs_cons (dg_name (pg_name (i := 10) sc_law.nd rfl (.inl rfl))) dgs_nil))))
 (dss_cons (ds_set (ps_set (i := 11) sc_law.nd rfl (.inl rfl) (d_call rfl (ok_between T) (hr.mono (by decide)) rfl T.d_between.g T.d_between.F.kp T.d_between.b (takes_of rfl rfl rfl rfl) (da_cons (d_var (pv 9)) (da_cons (d_var (pv 10)) da_nil)))))
 (dss_one (ds_if (dt_w (dw_or (dcT (d_ne rfl (hu65 hr) (d_var (pv 11)) (d_call rfl (ok__law_between T) (hr.mono (by decide)) rfl T.d__law_between.g T.d__law_between.F.kp T.d__law_between.b (takes_of rfl rfl rfl rfl) (da_cons (d_var (pv 9)) (da_cons (d_var (pv 10)) da_nil))))) (dw_or1 (dcT (d_ne rfl (hu65 hr) (d_call rfl (ok__law_divisor T) (hr.mono (by decide)) rfl T.d__law_divisor.g T.d__law_divisor.F.kp T.d__law_divisor.b (takes_of rfl rfl rfl rfl) (da_cons (d_ix rfl (d_var (pv 11)) d_int) (da_cons (d_ix rfl (d_var (pv 11)) d_int) da_nil))) d_int)))))
 (dss_one (ds_ret d_bl))
 dss_nil))))
 dss_nil)
 (dss_cons (ds_set (ps_set (i := 13) sc_law.nd rfl (.inl rfl) (d_join rfl d_str (d_ofO (o_lc (own := [("k", 12)]) rfl sc_law.nd (di_ran1 (by rfl) T.b_range (da_cons (d_call rfl (ok__law_take T) (hr.mono (by decide)) rfl T.d__law_take.g T.d__law_take.F.kp T.d__law_take.b (takes_of rfl rfl rfl rfl) (da_cons (d_var (pv 1)) (da_cons d_int da_nil))) da_nil)) (blkOk_by (N := nm_law) (sc := defScope s_law) (by decide +kernel)) (by decide) (fun _ _ _ _ _ => (dg_name (pg_name (i := 12) sc_law.nd rfl (.inl rfl)))) (fun _ _ _ _ _ => dts_nil) (fun _ _ _ _ _ => (d_call rfl (ok__law_pick T) (hr.mono (by decide)) rfl T.d__law_pick.g T.d__law_pick.F.kp T.d__law_pick.b takes0 (da_cons (d_var (pv 1)) (da_cons (d_lst (da_cons d_str (da_cons d_str da_nil))) da_nil)))))))))
 (dss_cons (ds_set (ps_set (i := 14) sc_law.nd rfl (.inl rfl) (d_call rfl (ok__law_way T) (hr.mono (by decide)) rfl T.d__law_way.g T.d__law_way.F.kp T.d__law_way.b (takes_of rfl rfl rfl rfl) (da_cons (d_var (pv 13)) da_nil))))
 (dss_cons (ds_if (dt_w (dw_or (dcT (d_ne rfl (hu65 hr) (d_call rfl (ok_way_to T) (hr.mono (by decide)) rfl T.d_way_to.g T.d_way_to.F.kp T.d_way_to.b (takes_of rfl rfl rfl rfl) (da_cons (d_ix rfl (d_var (pv 14)) d_int) (da_cons (d_ix rfl (d_var (pv 14)) d_int) da_nil))) (d_var (pv 13)))) (dw_or (dcT (d_ne rfl (hu65 hr) (d_call rfl (ok__law_divisor T) (hr.mono (by decide)) rfl T.d__law_divisor.g T.d__law_divisor.F.kp T.d__law_divisor.b (takes_of rfl rfl rfl rfl) (da_cons (d_ix rfl (d_var (pv 14)) d_int) (da_cons (d_ix rfl (d_var (pv 14)) d_int) da_nil))) d_int)) (dw_or1 (dcT (d_ne rfl (hu65 hr) (d_call rfl (ok_way_to T) (hr.mono (by decide)) rfl T.d_way_to.g T.d_way_to.F.kp T.d_way_to.b (takes_of rfl rfl rfl rfl) (da_cons (d_mul d_int (d_ix rfl (d_var (pv 14)) d_int)) (da_cons (d_mul d_int (d_ix rfl (d_var (pv 14)) d_int)) da_nil))) (d_var (pv 13))))))))
 (dss_one (ds_ret d_bl))
 dss_nil)
 (dss_cons (ds_set (ps_set (i := 15) sc_law.nd rfl (.inl rfl) (d_add rfl d_int (d_call rfl (ok__law_take T) (hr.mono (by decide)) rfl T.d__law_take.g T.d__law_take.F.kp T.d__law_take.b (takes_of rfl rfl rfl rfl) (da_cons (d_var (pv 1)) (da_cons d_int da_nil))))))
 (dss_cons (ds_set (ps_set (i := 16) sc_law.nd rfl (.inl rfl) (d_lst da_nil)))
 (dss_cons (ds_for (passes_of rfl) rfl (di_ran2 (by rfl) T.b_range (da_cons d_int (da_cons (d_add rfl (d_var (pv 15)) d_int) da_nil))) (dg_name (pg_name (i := 12) sc_law.nd rfl (.inr rfl)))
 (dss_one (ds_set (ps_set (i := 16) sc_law.nd rfl (.inl rfl) (d_add rfl (d_var (pv 16)) (d_ofO (o_lc (own := [("j", 28)]) rfl sc_law.nd (di_ran1 (by rfl) T.b_range (da_cons (d_add rfl (d_var (pv 12)) d_int) da_nil)) (blkOk_by (N := nm_law) (sc := defScope s_law) (by decide +kernel)) (by decide) (fun _ _ _ _ _ => (dg_name (pg_name (i := 28) sc_law.nd rfl (.inl rfl)))) (fun _ _ _ _ _ => (dts_one (dcT (d_eq rfl (hu65 hr) (d_call rfl (ok__law_divisor T) (hr.mono (by decide)) rfl T.d__law_divisor.g T.d__law_divisor.F.kp T.d__law_divisor.b takes0 (da_cons (d_var (pv 28)) (da_cons (d_var (pv 12)) da_nil))) d_int)))) (fun _ _ _ _ _ => (d_tup (da_cons (d_var (pv 28)) (da_cons (d_var (pv 12)) da_nil)))))))))))
 (dss_cons (ds_set (ps_set (i := 17) sc_law.nd rfl (.inr rfl) (d_call rfl (ok_row_of_parts T) (hr.mono (by decide)) rfl T.d_row_of_parts.g T.d_row_of_parts.F.kp T.d_row_of_parts.b (takes_of rfl rfl rfl rfl) (da_cons (d_var (pv 15)) da_nil))))
 (dss_cons (ds_if (dt_w (dw_or (dcT (d_ne rfl (hu65 hr) (d_callB (cr_sortedDt (hu100 hr)) kl_sortA rfl T.b_sorted (by decide +kernel) (da_cons (d_var (pv 17)) da_nil)) (d_callB (cr_sortedDt (hu100 hr)) kl_sortA rfl T.b_sorted (by decide +kernel) (da_cons (d_var (pv 16)) da_nil)))) (dw_or1 (dcT (d_gt (d_callB call_len kl_len rfl T.b_len (by decide +kernel) (da_cons (d_ofO (o_lc (own := [("k", 12)]) rfl sc_law.nd (di_ran1 (by rfl) T.b_range (da_cons (d_sub (d_callB call_len kl_len rfl T.b_len (by decide +kernel) (da_cons (d_var (pv 17)) da_nil)) d_int) da_nil)) (blkOk_by (N := nm_law) (sc := defScope s_law) (by decide +kernel)) (by decide) (fun _ _ _ _ _ => (dg_name (pg_name (i := 12) sc_law.nd rfl (.inl rfl)))) (fun _ _ _ _ _ => (dts_one (dcT (d_ne rfl (hu65 hr) (d_sub (d_mul (d_ix rfl (d_ix rfl (d_var (pv 17)) (d_add rfl (d_var (pv 12)) d_int)) d_int) (d_ix rfl (d_ix rfl (d_var (pv 17)) (d_var (pv 12))) d_int)) (d_mul (d_ix rfl (d_ix rfl (d_var (pv 17)) (d_var (pv 12))) d_int) (d_ix rfl (d_ix rfl (d_var (pv 17)) (d_add rfl (d_var (pv 12)) d_int)) d_int))) d_int)))) (fun _ _ _ _ _ => (d_var (pv 12))))) da_nil)) d_int)))))
 (dss_one (ds_ret d_bl))
 dss_nil)
 (dss_cons (ds_set (ps_set (i := 18) sc_law.nd rfl (.inl rfl) (d_add rfl d_int (d_call rfl (ok__law_take T) (hr.mono (by decide)) rfl T.d__law_take.g T.d__law_take.F.kp T.d__law_take.b (takes_of rfl rfl rfl rfl) (da_cons (d_var (pv 1)) (da_cons d_int da_nil))))))
 (dss_cons (ds_if (dcT (d_ne rfl (hu65 hr) (d_call rfl (ok_threes T) (hr.mono (by decide)) rfl T.d_threes.g T.d_threes.F.kp T.d_threes.b (takes_of rfl rfl rfl rfl) (da_cons (d_var (pv 18)) da_nil)) (d_call rfl (ok__law_threes T) (hr.mono (by decide)) rfl T.d__law_threes.g T.d__law_threes.F.kp T.d__law_threes.b (takes_of rfl rfl rfl rfl) (da_cons (d_var (pv 18)) da_nil))))
 (dss_one (ds_ret d_bl))
 dss_nil)
 (dss_cons (ds_set (ps_set (i := 19) sc_law.nd rfl (.inr rfl) (d_call rfl (ok__law_pick T) (hr.mono (by decide)) rfl T.d__law_pick.g T.d__law_pick.F.kp T.d__law_pick.b (takes_of rfl rfl rfl rfl) (da_cons (d_var (pv 1)) (da_cons (d_call rfl (ok_threes T) (hr.mono (by decide)) rfl T.d_threes.g T.d_threes.F.kp T.d_threes.b (takes_of rfl rfl rfl rfl) (da_cons (d_add rfl d_int (d_call rfl (ok__law_take T) (hr.mono (by decide)) rfl T.d__law_take.g T.d__law_take.F.kp T.d__law_take.b (takes_of rfl rfl rfl rfl) (da_cons (d_var (pv 1)) (da_cons d_int da_nil)))) da_nil)) da_nil)))))
 (dss_cons (ds_if (dcT (d_notB (d_call rfl (ok_is_three T) (hr.mono (by decide)) rfl T.d_is_three.g T.d_is_three.F.kp T.d_is_three.b (takes_of rfl rfl rfl rfl) (da_cons (d_var (pv 19)) da_nil)) d_bl))
 (dss_one (ds_ret d_bl))
 dss_nil)
 (dss_cons (ds_setO (ps_set (i := 20) sc_law.nd rfl (.inl rfl) (o_lst da_nil)))
 (dss_cons (ds_for (passes_of rfl) rfl (di_ran1 (by rfl) T.b_range (da_cons d_int da_nil)) (dg_name (pg_name (i := 12) sc_law.nd rfl (.inr rfl)))
 (dss_cons (ds_asg (d_ofO (o_lc (own := [("j", 28)]) rfl sc_law.nd (di_ran1 (by rfl) T.b_range (da_cons d_int da_nil)) (blkOk_by (N := nm_law) (sc := defScope s_law) (by decide +kernel)) (by decide) (fun _ _ _ _ _ => (dg_name (pg_name (i := 28) sc_law.nd rfl (.inl rfl)))) (fun _ _ _ _ _ => (dts_one (dcT (d_ne rfl (hu65 hr) (d_var (pv 28)) (d_var (pv 12)))))) (fun _ _ _ _ _ => (d_ix rfl (d_var (pv 19)) (d_var (pv 28)))))) (dg_unl rfl rfl (dgs_cons (dg_name (pg_name (i := 21) sc_law.nd rfl (.inl rfl))) (dgs_cons (dg_name (pg_name (i := 22) sc_law.nd rfl (.inl rfl))) dgs_nil))))
 (dss_one (ds_app (i := 20) (ps_expr (pe_bm PySem.F.plainAttrs_list PySem.F.slot_list_append PySem.F.type_list_append mt_append (pv 20) (pa_cons (d_callT call_tuple_of kl_tuple rfl T.b_tuple (by decide +kernel) (da_cons (d_callB (cr_sortedDt (hu100 hr)) kl_sortA rfl T.b_sorted (by decide +kernel) (da_cons (d_tup (da_cons (d_var (pv 21)) (da_cons (d_var (pv 22)) (da_cons (d_sub (d_mul (d_mul d_int (d_var (pv 21))) (d_var (pv 22))) (d_ix rfl (d_var (pv 19)) (d_var (pv 12)))) da_nil)))) da_nil)) da_nil)) pa_nil)))))))
 (dss_frz (i := 20) (dss_cons (ds_if (dt_w (dw_or (dcT (d_ne rfl (hu65 hr) (d_call rfl (ok_beside T) (hr.mono (by decide)) rfl T.d_beside.g T.d_beside.F.kp T.d_beside.b (takes_of rfl rfl rfl rfl) (da_cons (d_var (pv 19)) da_nil)) (d_sortSetT rfl (hu100 hr) rfl rfl T.b_sorted rfl T.b_set (da_cons (d_var (pv 20)) da_nil)))) (dw_or1 (dcT (d_gt (d_callB call_len kl_len rfl T.b_len (by decide +kernel) (da_cons (d_ofO (o_lc (own := [("one", 21)]) rfl sc_law.nd (di_seq rfl (d_var (pv 20))) (blkOk_by (N := nm_law) (sc := defScope s_law) (by decide +kernel)) (by decide) (fun _ _ _ _ _ => (dg_name (pg_name (i := 21) sc_law.nd rfl (.inl rfl)))) (fun _ _ _ _ _ => (dts_one (dcT (d_notB (d_call rfl (ok_is_three T) (hr.mono (by decide)) rfl T.d_is_three.g T.d_is_three.F.kp T.d_is_three.b takes0 (da_cons (d_var (pv 21)) da_nil)) d_bl)))) (fun _ _ _ _ _ => (d_var (pv 21))))) da_nil)) d_int)))))
 (dss_one (ds_ret d_bl))
 dss_nil)
 (dss_cons (ds_set (ps_set (i := 23) sc_law.nd rfl (.inr rfl) (d_call rfl (ok_way_down T) (hr.mono (by decide)) rfl T.d_way_down.g T.d_way_down.F.kp T.d_way_down.b (takes_of rfl rfl rfl rfl) (da_cons (d_var (pv 19)) da_nil))))
 (dss_cons (ds_if (dt_w (dw_or (dcT (d_ne rfl (hu65 hr) (d_ix rfl (d_var (pv 23)) d_int) (d_var (pv 19)))) (dw_or (dcT (d_ne rfl (hu65 hr) (d_ix rfl (d_var (pv 23)) (d_neg d_int)) (d_tup (da_cons d_int (da_cons d_int (da_cons d_int da_nil)))))) (dw_or1 (dcT (d_gt (d_callB call_len kl_len rfl T.b_len (by decide +kernel) (da_cons (d_ofO (o_lc (own := [("k", 12)]) rfl sc_law.nd (di_ran1 (by rfl) T.b_range (da_cons (d_sub (d_callB call_len kl_len rfl T.b_len (by decide +kernel) (da_cons (d_var (pv 23)) da_nil)) d_int) da_nil)) (blkOk_by (N := nm_law) (sc := defScope s_law) (by decide +kernel)) (by decide) (fun _ _ _ _ _ => (dg_name (pg_name (i := 12) sc_law.nd rfl (.inl rfl)))) (fun _ _ _ _ _ => (dts_one (dt_w (dw_or (dcT (d_notIn rfl (hu65 hr) (d_ix rfl (d_var (pv 23)) (d_add rfl (d_var (pv 12)) d_int)) (d_call rfl (ok_beside T) (hr.mono (by decide)) rfl T.d_beside.g T.d_beside.F.kp T.d_beside.b takes0 (da_cons (d_ix rfl (d_var (pv 23)) (d_var (pv 12))) da_nil)))) (dw_or1 (dt_w (dw_and (dcT (d_ge (d_ix rfl (d_ix rfl (d_var (pv 23)) (d_add rfl (d_var (pv 12)) d_int)) d_int) (d_ix rfl (d_ix rfl (d_var (pv 23)) (d_var (pv 12))) d_int))) (dw_and1 (dcT (d_ne rfl (hu65 hr) (d_ix rfl (d_var (pv 23)) (d_var (pv 12))) (d_tup (da_cons d_int (da_cons d_int (da_cons d_int da_nil)))))))))))))) (fun _ _ _ _ _ => (d_var (pv 12))))) da_nil)) d_int))))))
 (dss_one (ds_ret d_bl))
 dss_nil)
 (dss_cons (ds_set (ps_set (i := 24) sc_law.nd rfl (.inl rfl) (d_callT call_tuple_of kl_tuple rfl T.b_tuple (by decide +kernel) (da_cons (d_callB (cr_sortedDt (hu100 hr)) kl_sortA rfl T.b_sorted (by decide +kernel) (da_cons (d_ofO (o_lc (own := [("k", 12)]) rfl sc_law.nd (di_ran1 (by rfl) T.b_range (da_cons d_int da_nil)) (blkOk_by (N := nm_law) (sc := defScope s_law) (by decide +kernel)) (by decide) (fun _ _ _ _ _ => (dg_name (pg_name (i := 12) sc_law.nd rfl (.inl rfl)))) (fun _ _ _ _ _ => dts_nil) (fun _ _ _ _ _ => (d_add rfl d_int (d_call rfl (ok__law_take T) (hr.mono (by decide)) rfl T.d__law_take.g T.d__law_take.F.kp T.d__law_take.b takes0 (da_cons (d_var (pv 1)) (da_cons d_int da_nil))))))) da_nil)) da_nil))))
 (dss_cons (ds_set (ps_set (i := 25) sc_law.nd rfl (.inl rfl) (dcE (d_eq rfl (hu65 hr) (d_add rfl (d_add rfl (d_mul (d_ix rfl (d_var (pv 24)) d_int) (d_ix rfl (d_var (pv 24)) d_int)) (d_mul (d_ix rfl (d_var (pv 24)) d_int) (d_ix rfl (d_var (pv 24)) d_int))) (d_mul (d_ix rfl (d_var (pv 24)) d_int) (d_ix rfl (d_var (pv 24)) d_int))) (d_mul (d_mul (d_mul d_int (d_ix rfl (d_var (pv 24)) d_int)) (d_ix rfl (d_var (pv 24)) d_int)) (d_ix rfl (d_var (pv 24)) d_int))))))
 (dss_one (ds_if (dcT (d_ne rfl (hu65 hr) (d_call rfl (ok_is_three T) (hr.mono (by decide)) rfl T.d_is_three.g T.d_is_three.F.kp T.d_is_three.b (takes_of rfl rfl rfl rfl) (da_cons (d_var (pv 24)) da_nil)) (d_var (pv 25))))
 (dss_one (ds_ret d_bl))
 dss_nil)))))))))))))))))))))))))))))
 (dss_cons (ds_try (i := 26) rfl rfl sc_law.nd rfl rfl rfl ⟨rfl, rfl, .inl T.e_Misstep.g⟩ (cl_Misstep T) (hm_Misstep T) (takes_of rfl rfl rfl rfl) (fun W pn xe tk po => (dss_cons (ds_expr (d_call rfl (ok_way_down T) (hr.mono (by decide)) rfl T.d_way_down.g T.d_way_down.F.kp T.d_way_down.b tk (da_cons (d_tup (da_cons d_int (da_cons d_int (da_cons d_int da_nil)))) da_nil)))
 (dss_one (ds_ret d_bl))))
 (fun a dd oe pn hz hf => (dss_one (ds_if (dcT (d_ne rfl (have z := hu65 hr; z) (d_xf T.e_Misstep.xf T.e_Misstep.k.fin hz hf (pv 26)) d_str))
 (dss_one (ds_ret d_bl))
 dss_nil))))
 (dss_cons (ds_set (ps_set (i := 27) sc_law.nd rfl (.inl rfl) (d_lst (da_cons d_non (da_cons (d_tup da_nil) (da_cons (d_tup (da_cons d_int (da_cons d_int da_nil))) (da_cons (d_lst (da_cons d_int (da_cons d_int (da_cons d_int da_nil)))) (da_cons (d_tup (da_cons d_int (da_cons d_int (da_cons d_int da_nil)))) (da_cons (d_tup (da_cons d_int (da_cons d_int (da_cons d_int da_nil)))) (da_cons (d_tup (da_cons d_bl (da_cons d_int (da_cons d_int da_nil)))) (da_cons (d_tup (da_cons d_str (da_cons d_int (da_cons d_int da_nil)))) (da_cons (d_tup (da_cons d_int (da_cons d_int (da_cons d_int (da_cons d_int da_nil))))) da_nil))))))))))))
 (dss_one (ds_ret (d_and (d_callB (cr_all rfl) kl_all rfl T.b_all (by decide +kernel) (da_cons (d_ofO (o_lc (own := [("odd", 29)]) rfl sc_law.nd (di_seq rfl (d_var (pv 27))) (blkOk_by (N := nm_law) (sc := defScope s_law) (by decide +kernel)) (by decide) (fun _ _ _ _ _ => (dg_name (pg_name (i := 29) sc_law.nd rfl (.inl rfl)))) (fun _ _ _ _ _ => dts_nil) (fun _ _ _ _ _ => (dcE (d_isB (d_call rfl (ok_is_three T) (hr.mono (by decide)) rfl T.d_is_three.g T.d_is_three.F.kp T.d_is_three.b takes0 (da_cons (d_var (pv 29)) da_nil)) d_bl))))) da_nil)) (d_one (dcE (d_eq rfl (hu65 hr) (d_call rfl (ok_threes T) (hr.mono (by decide)) rfl T.d_threes.g T.d_threes.F.kp T.d_threes.b (takes_of rfl rfl rfl rfl) (da_cons d_int da_nil)) (d_lst (da_cons (d_tup (da_cons d_int (da_cons d_int (da_cons d_int da_nil)))) (da_cons (d_tup (da_cons d_int (da_cons d_int (da_cons d_int da_nil)))) (da_cons (d_tup (da_cons d_int (da_cons d_int (da_cons d_int da_nil)))) (da_cons (d_tup (da_cons d_int (da_cons d_int (da_cons d_int da_nil)))) (da_cons (d_tup (da_cons d_int (da_cons d_int (da_cons d_int da_nil)))) (da_cons (d_tup (da_cons d_int (da_cons d_int (da_cons d_int da_nil)))) da_nil))))))))))))))))), law_go rfl hS hl h4 rfl hm⟩
end K46
namespace DL
open PySem
open PySem.Spec
open PyProof.Rows
open L2
def spc : SV → Bool
  | .ex _ => true
  | .odc _ => true
  | .ods _ => true
  | _ => false
def Ag (m : List Nat) (ρ ρ' : RS) : Prop := ρ.length = ρ'.length ∧ (∀ i ∈ m, ρ[i]? = ρ'[i]?) ∧ ∀ (i : Nat) (x : SV), ρ[i]? = some x → spc x = true → ρ'[i]? = some x
def Sub (m m' : List Nat) : Prop := ∀ i ∈ m, i ∈ m'
instance (m m' : List Nat) : Decidable (Sub m m') := inferInstanceAs (Decidable (∀ i ∈ m, i ∈ m'))
theorem Ag.sub {m m' : List Nat} {ρ ρ' : RS} (h : Ag m' ρ ρ') (s : Sub m m') : Ag m ρ ρ' := ⟨h.1, fun i hi => h.2.1 i (s i hi), h.2.2⟩
theorem Ag.refl {m : List Nat} {ρ : RS} : Ag m ρ ρ := ⟨rfl, fun _ _ => rfl, fun _ _ h _ => h⟩
theorem Ag.set {m : List Nat} {ρ ρ' : RS} (h : Ag m ρ ρ') (i : Nat) (x : SV) : Ag (i :: m) (ρ.set i x) (ρ'.set i x) := by
  refine ⟨by rw [List.length_set, List.length_set, h.1], fun j hj => ?_, fun j y hy hs => ?_⟩
  · by_cases e : i = j
    · subst e
      by_cases hl : i < ρ.length
      · rw [List.getElem?_set_self hl, List.getElem?_set_self (by rw [← h.1]; exact hl)]
      · rw [List.getElem?_eq_none (by rw [List.length_set]; omega), List.getElem?_eq_none (by rw [List.length_set, ← h.1]; omega)]
    · rw [List.getElem?_set_ne e, List.getElem?_set_ne e]
      rcases List.mem_cons.mp hj with z | z
      · exact absurd z.symm e
      · exact h.2.1 j z
  · by_cases e : i = j
    · subst e
      by_cases hl : i < ρ.length
      · rw [List.getElem?_set_self hl] at hy
        rw [List.getElem?_set_self (by rw [← h.1]; exact hl)]
        exact hy
      · rw [List.getElem?_eq_none (by rw [List.length_set]; omega)] at hy
        cases hy
    · rw [List.getElem?_set_ne e] at hy ⊢
      exact h.2.2 j y hy hs
theorem Ag.set' {m : List Nat} {ρ ρ' : RS} (h : Ag m ρ ρ') (i : Nat) (x : SV) : Ag m (ρ.set i x) (ρ'.set i x) := (h.set i x).sub fun _ hi => List.mem_cons_of_mem _ hi
theorem Ag.wipe {m : List Nat} {ρ ρ' : RS} (h : Ag m ρ ρ') : ∀ vs : List Nat, Ag (vs ++ m) (wipeR ρ vs) (wipeR ρ' vs)
  | [] => h
  | v :: vs => by
    have := (Ag.wipe h vs).set v .un
    exact this
theorem noEx_iff : ∀ {ρ : RS}, noEx ρ = true ↔ ∀ (i : Nat) (fs : List (Str × D)), ρ[i]? ≠ some (.ex fs)
  | [] => by simp [noEx]
  | .ex fs :: r => by
    refine ⟨fun h => (by cases h), fun h => absurd rfl (h 0 fs)⟩
  | .un :: r => ⟨fun h i fs => noEx_get h, fun h => (noEx_iff (ρ := r)).mpr fun i fs => h (i + 1) fs⟩
  | .d _ :: r => ⟨fun h i fs => noEx_get h, fun h => (noEx_iff (ρ := r)).mpr fun i fs => h (i + 1) fs⟩
  | .own _ :: r => ⟨fun h i fs => noEx_get h, fun h => (noEx_iff (ρ := r)).mpr fun i fs => h (i + 1) fs⟩
  | .odc _ :: r => ⟨fun h i fs => noEx_get h, fun h => (noEx_iff (ρ := r)).mpr fun i fs => h (i + 1) fs⟩
  | .ods _ :: r => ⟨fun h i fs => noEx_get h, fun h => (noEx_iff (ρ := r)).mpr fun i fs => h (i + 1) fs⟩
theorem noOdc_iff : ∀ {ρ : RS}, noOdc ρ = true ↔ ∀ (i : Nat) (fs : DK), ρ[i]? ≠ some (.odc fs)
  | [] => by simp [noOdc]
  | .odc fs :: r => by
    refine ⟨fun h => (by cases h), fun h => absurd rfl (h 0 fs)⟩
  | .un :: r => ⟨fun h i fs => noOdc_get h, fun h => (noOdc_iff (ρ := r)).mpr fun i fs => h (i + 1) fs⟩
  | .d _ :: r => ⟨fun h i fs => noOdc_get h, fun h => (noOdc_iff (ρ := r)).mpr fun i fs => h (i + 1) fs⟩
  | .own _ :: r => ⟨fun h i fs => noOdc_get h, fun h => (noOdc_iff (ρ := r)).mpr fun i fs => h (i + 1) fs⟩
  | .ex _ :: r => ⟨fun h i fs => noOdc_get h, fun h => (noOdc_iff (ρ := r)).mpr fun i fs => h (i + 1) fs⟩
  | .ods _ :: r => ⟨fun h i fs => noOdc_get h, fun h => (noOdc_iff (ρ := r)).mpr fun i fs => h (i + 1) fs⟩
theorem Ag.noEx {m : List Nat} {ρ ρ' : RS} (h : Ag m ρ ρ') (n : noEx ρ' = true) : DL.noEx ρ = true := noEx_iff.mpr fun i fs e => noEx_iff.mp n i fs (h.2.2 i _ e rfl)
theorem Ag.noOdc {m : List Nat} {ρ ρ' : RS} (h : Ag m ρ ρ') (n : noOdc ρ' = true) : DL.noOdc ρ = true := noOdc_iff.mpr fun i fs e => noOdc_iff.mp n i fs (h.2.2 i _ e rfl)
theorem Ag.sole {m : List Nat} {ρ ρ' : RS} (h : Ag m ρ ρ') {i : Nat} (n : sole ρ' i = true) : DL.sole ρ i = true := (h.set i .un).noOdc n
theorem noOds_iff : ∀ {ρ : RS}, noOds ρ = true ↔ ∀ (i : Nat) (fs : List (List Int)), ρ[i]? ≠ some (.ods fs)
  | [] => by simp [noOds]
  | .ods fs :: r => by
    refine ⟨fun h => (by cases h), fun h => absurd rfl (h 0 fs)⟩
  | .un :: r => ⟨fun h i fs => noOds_get h, fun h => (noOds_iff (ρ := r)).mpr fun i fs => h (i + 1) fs⟩
  | .d _ :: r => ⟨fun h i fs => noOds_get h, fun h => (noOds_iff (ρ := r)).mpr fun i fs => h (i + 1) fs⟩
  | .own _ :: r => ⟨fun h i fs => noOds_get h, fun h => (noOds_iff (ρ := r)).mpr fun i fs => h (i + 1) fs⟩
  | .ex _ :: r => ⟨fun h i fs => noOds_get h, fun h => (noOds_iff (ρ := r)).mpr fun i fs => h (i + 1) fs⟩
  | .odc _ :: r => ⟨fun h i fs => noOds_get h, fun h => (noOds_iff (ρ := r)).mpr fun i fs => h (i + 1) fs⟩
theorem Ag.noOds {m : List Nat} {ρ ρ' : RS} (h : Ag m ρ ρ') (n : noOds ρ' = true) : DL.noOds ρ = true := noOds_iff.mpr fun i fs e => noOds_iff.mp n i fs (h.2.2 i _ e rfl)
theorem Ag.soleS {m : List Nat} {ρ ρ' : RS} (h : Ag m ρ ρ') {i : Nat} (n : soleS ρ' i = true) : DL.soleS ρ i = true := (h.set i .un).noOds n
def OR {α : Type} (o o' : Out α) (g : G) : Prop := match o' with
  | .ok a _ => o = .ok a g
  | .exc n fs _ => o = .exc n fs g
  | .bad => True
abbrev FrO {α : Type} (m : List Nat) (f : RS → G → Out α) : Prop := ∀ (ρ ρ' : RS) (g g' : G), Ag m ρ ρ' → OR (f ρ g) (f ρ' g') g
theorem OR.bind {α β : Type} {o o' : Out α} {g : G} {k1 k2 : α → G → Out β} (h : OR o o' g) (k : ∀ a g', OR (k1 a g) (k2 a g') g) : OR (o.bind k1) (o'.bind k2) g := by
  cases o' with
  | ok a g' =>
    cases (show o = .ok a g from h)
    exact k a g'
  | exc n fs g' =>
    cases (show o = .exc n fs g from h)
    exact rfl
  | bad => exact trivial
abbrev GP2 (φ : D → D → G → Out D) : Prop := ∀ x y g g', OR (φ x y g) (φ x y g') g
abbrev GP1 (φ : List D → G → Out D) : Prop := ∀ x g g', OR (φ x g) (φ x g') g
theorem gp_add : GP2 opAdd := by intro x y g g'; unfold opAdd; split <;> (try split) <;> first | exact rfl | exact trivial
theorem gp_sub : GP2 opSub := by intro x y g g'; unfold opSub; split <;> (try split) <;> first | exact rfl | exact trivial
theorem gp_mul : GP2 opMul := by intro x y g g'; unfold opMul; split <;> (try split) <;> first | exact rfl | exact trivial
theorem gp_mulT : GP2 opMulT := by intro x y g g'; unfold opMulT; split <;> (try split) <;> first | exact rfl | exact trivial
theorem gp_div : GP2 opDiv := by intro x y g g'; unfold opDiv; split <;> (try split) <;> first | exact rfl | exact trivial
theorem gp_mod : GP2 opMod := by intro x y g g'; unfold opMod; split <;> (try split) <;> first | exact rfl | exact trivial
theorem gp_pow : GP2 opPow := by intro x y g g'; unfold opPow; split <;> (try split) <;> first | exact rfl | exact trivial
theorem gp_I {p : Int → Int → Bool} : GP2 (opI p) := by intro x y g g'; unfold opI; split <;> (try split) <;> first | exact rfl | exact trivial
theorem gp_eq : GP2 opEq := by intro x y g g'; unfold opEq; split <;> first | exact rfl | exact trivial
theorem gp_ne : GP2 opNe := by intro x y g g'; unfold opNe; split <;> first | exact rfl | exact trivial
theorem gp_isB : GP2 opIsB := by intro x y g g'; unfold opIsB; split <;> (try split) <;> first | exact rfl | exact trivial
theorem gp_notB : GP2 opNotB := by intro x y g g'; unfold opNotB; split <;> (try split) <;> first | exact rfl | exact trivial
theorem gp_in {b : Bool} : GP2 (opIn b) := by intro x y g g'; unfold opIn; split <;> (try split) <;> first | exact rfl | exact trivial
theorem gp_ix : GP2 opIx := by intro x y g g'; unfold opIx; split <;> (try split) <;> (try split) <;> first | exact rfl | exact trivial
theorem gp_eqD {b : Bool} : GP2 (opEqD b) := by intro x y g g'; unfold opEqD; split <;> (try split) <;> first | exact rfl | exact trivial
theorem gp_len : GP1 bLen := by intro x g g'; unfold bLen; split <;> (try split) <;> first | exact rfl | exact trivial
theorem gp_abs : GP1 bAbs := by intro x g g'; unfold bAbs; split <;> (try split) <;> first | exact rfl | exact trivial
theorem gp_int : GP1 bInt := by intro x g g'; unfold bInt; split <;> (try split) <;> first | exact rfl | exact trivial
theorem gp_sum : GP1 bSum := by intro x g g'; unfold bSum; split <;> (try split) <;> first | exact rfl | exact trivial
theorem gp_sumA : GP1 bSumA := by intro x g g'; unfold bSumA; split <;> (try split) <;> first | exact rfl | exact trivial
theorem gp_sortSet : GP1 bSortSet := by intro x g g'; unfold bSortSet; split <;> (try split) <;> (try split) <;> first | exact rfl | exact trivial
theorem gp_sortSetP : GP1 bSortSetP := by intro x g g'; unfold bSortSetP; split <;> (try split) <;> (try split) <;> first | exact rfl | exact trivial
theorem gp_lenSetP : GP1 bLenSetP := by intro x g g'; unfold bLenSetP; split <;> (try split) <;> (try split) <;> first | exact rfl | exact trivial
theorem gp_maxA : GP1 bMaxA := by intro x g g'; unfold bMaxA; split <;> (try split) <;> first | exact rfl | exact trivial
theorem gp_minA : GP1 bMinA := by intro x g g'; unfold bMinA; split <;> (try split) <;> first | exact rfl | exact trivial
theorem gp_sortR : GP1 bSortR := by intro x g g'; unfold bSortR; split <;> (try split) <;> first | exact rfl | exact trivial
theorem gp_lenSet : GP1 bLenSet := by intro x g g'; unfold bLenSet; split <;> (try split) <;> (try split) <;> first | exact rfl | exact trivial
theorem gp_sortSetT : GP1 bSortSetT := by intro x g g'; unfold bSortSetT; split <;> (try split) <;> (try split) <;> first | exact rfl | exact trivial
theorem gp_rng2 : GP1 bRng2 := by intro x g g'; unfold bRng2; split <;> first | exact rfl | exact trivial
theorem gp_any : GP1 bAny := by intro x g g'; unfold bAny; split <;> (try split) <;> first | exact rfl | exact trivial
theorem gp_all : GP1 bAll := by intro x g g'; unfold bAll; split <;> (try split) <;> first | exact rfl | exact trivial
theorem gp_sorted : GP1 bSorted := by intro x g g'; unfold bSorted; split <;> (try split) <;> first | exact rfl | exact trivial
theorem gp_sortA : GP1 bSortA := by intro x g g'; unfold bSortA; split <;> (try split) <;> first | exact rfl | exact trivial
theorem gp_tuple : GP1 bTuple := by intro x g g'; unfold bTuple; split <;> (try split) <;> first | exact rfl | exact trivial
theorem gp_list : GP1 bList := by intro x g g'; unfold bList; split <;> (try split) <;> first | exact rfl | exact trivial
theorem gp_max2 : GP1 bMax2 := by intro x g g'; unfold bMax2; split <;> (try split) <;> first | exact rfl | exact trivial
theorem gp_min2 : GP1 bMin2 := by intro x g g'; unfold bMin2; split <;> (try split) <;> first | exact rfl | exact trivial
theorem gp_max : GP1 bMax := by intro x g g'; unfold bMax; split <;> (try split) <;> (try split) <;> first | exact rfl | exact trivial
theorem gp_min : GP1 bMin := by intro x g g'; unfold bMin; split <;> (try split) <;> (try split) <;> first | exact rfl | exact trivial
theorem gp_rng : GP1 bRng := by intro x g g'; unfold bRng; split <;> (try split) <;> first | exact rfl | exact trivial
section
variable {m : List Nat} {fa fb fc fe fj fo : EF} {t ta tb : TF} {fs : AF}
theorem fr_eV {i : Nat} (h : i ∈ m) : FrO m (eV i) := fun ρ ρ' g g' A => by
  unfold eV
  rw [A.2.1 i h]
  split <;> first | exact rfl | exact trivial
theorem fr_eC {d : D} : FrO m (eC d) := fun ρ ρ' g g' A => rfl
theorem fr_eBin {φ : D → D → G → Out D} (hφ : GP2 φ) (ha : FrO m fa) (hb : FrO m fb) : FrO m (eBin φ fa fb) := fun ρ ρ' g g' A => OR.bind (ha ρ ρ' g g' A) fun x g1 => OR.bind (hb ρ ρ' g g1 A) fun y g2 => hφ x y g g2
theorem fr_eNeg (ha : FrO m fa) : FrO m (eNeg fa) := fun ρ ρ' g g' A => OR.bind (ha ρ ρ' g g' A) fun x g1 => by cases x <;> first | exact rfl | exact trivial
theorem fr_tVal (ha : FrO m fa) : FrO m (tVal fa) := fun ρ ρ' g g' A => OR.bind (ha ρ ρ' g g' A) fun x g1 => by cases x <;> first | exact rfl | exact trivial
theorem fr_eIsN (ha : FrO m fa) : FrO m (eIsN fa) := fun ρ ρ' g g' A => OR.bind (ha ρ ρ' g g' A) fun x g1 => rfl
theorem fr_eNotN (ha : FrO m fa) : FrO m (eNotN fa) := fun ρ ρ' g g' A => OR.bind (ha ρ ρ' g g' A) fun x g1 => rfl
theorem OR.ite {α : Type} {p : Prop} [Decidable p] {a b a' b' : Out α} {g : G} (h1 : OR a a' g) (h2 : OR b b' g) : OR (if p then a else b) (if p then a' else b') g := by split <;> assumption
theorem fr_eChain {p q : Int → Int → Bool} (ha : FrO m fa) (hb : FrO m fb) (hc : FrO m fc) : FrO m (eChain p q fa fb fc) := fun ρ ρ' g g' A => OR.bind (ha ρ ρ' g g' A) fun x g1 => OR.bind (hb ρ ρ' g g1 A) fun y g2 => by
  cases x with
  | int i => cases y with
    | int j => exact OR.ite (OR.bind (hc ρ ρ' g g2 A) fun z g3 => by cases z <;> first | exact rfl | exact trivial) rfl
    | _ => exact trivial
  | _ => exact trivial
theorem fr_tAndF (ha : FrO m ta) (hb : FrO m tb) : FrO m (tAndF ta tb) := fun ρ ρ' g g' A => OR.bind (ha ρ ρ' g g' A) fun x g1 => OR.ite (hb ρ ρ' g g1 A) rfl
theorem fr_tOrF (ha : FrO m ta) (hb : FrO m tb) : FrO m (tOrF ta tb) := fun ρ ρ' g g' A => OR.bind (ha ρ ρ' g g' A) fun x g1 => OR.ite rfl (hb ρ ρ' g g1 A)
theorem fr_tNotF (ha : FrO m ta) : FrO m (tNotF ta) := fun ρ ρ' g g' A => OR.bind (ha ρ ρ' g g' A) fun x g1 => rfl
theorem fr_tTru (ha : FrO m fa) : FrO m (tTru fa) := fun ρ ρ' g g' A => OR.bind (ha ρ ρ' g g' A) fun x g1 => by
  cases truD x <;> first | exact rfl | exact trivial
theorem fr_eAnd (ha : FrO m fa) (hb : FrO m fb) : FrO m (eAnd fa fb) := fun ρ ρ' g g' A => OR.bind (ha ρ ρ' g g' A) fun x g1 => by
  cases x with
  | bool k => exact OR.ite (hb ρ ρ' g g1 A) rfl
  | _ => exact trivial
theorem fr_eOr (ha : FrO m fa) (hb : FrO m fb) : FrO m (eOr fa fb) := fun ρ ρ' g g' A => OR.bind (ha ρ ρ' g g' A) fun x g1 => by
  cases x with
  | bool k => exact OR.ite rfl (hb ρ ρ' g g1 A)
  | _ => exact trivial
theorem fr_eNot (ha : FrO m fa) : FrO m (eNot fa) := fun ρ ρ' g g' A => OR.bind (ha ρ ρ' g g' A) fun x g1 => by cases x <;> first | exact rfl | exact trivial
theorem fr_eIf (ht : FrO m t) (ha : FrO m fa) (hb : FrO m fb) : FrO m (eIf t fa fb) := fun ρ ρ' g g' A => OR.bind (ht ρ ρ' g g' A) fun x g1 => OR.ite (ha ρ ρ' g g1 A) (hb ρ ρ' g g1 A)
theorem fr_tIfF {a b : TF} (ht : FrO m t) (ha : FrO m a) (hb : FrO m b) : FrO m (tIfF t a b) := fun ρ ρ' g g' A => OR.bind (ht ρ ρ' g g' A) fun x g1 => OR.ite (ha ρ ρ' g g1 A) (hb ρ ρ' g g1 A)
theorem fr_aNil : FrO m aNil := fun ρ ρ' g g' A => rfl
theorem fr_aCons (ha : FrO m fe) (hb : FrO m fs) : FrO m (aCons fe fs) := fun ρ ρ' g g' A => OR.bind (ha ρ ρ' g g' A) fun x g1 => OR.bind (hb ρ ρ' g g1 A) fun y g2 => rfl
theorem fr_eTup (ha : FrO m fs) : FrO m (eTup fs) := fun ρ ρ' g g' A => OR.bind (ha ρ ρ' g g' A) fun x g1 => OR.ite rfl trivial
theorem fr_eLst (ha : FrO m fs) : FrO m (eLst fs) := fun ρ ρ' g g' A => OR.bind (ha ρ ρ' g g' A) fun x g1 => OR.ite rfl trivial
theorem fr_oNone : FrO m oNone := fun ρ ρ' g g' A => rfl
theorem fr_oSome (ha : FrO m fe) : FrO m (oSome fe) := fun ρ ρ' g g' A => OR.bind (ha ρ ρ' g g' A) fun x g1 => by cases x <;> first | exact rfl | exact trivial
theorem fr_eSl {fl fh : OF} (ha : FrO m fa) (hb : FrO m fl) (hc : FrO m fh) : FrO m (eSl fa fl fh) := fun ρ ρ' g g' A => OR.bind (ha ρ ρ' g g' A) fun x g1 => OR.bind (hb ρ ρ' g g1 A) fun y g2 => OR.bind (hc ρ ρ' g g2 A) fun z g3 => by cases x <;> first | exact rfl | exact trivial
theorem fr_eCall {φ : List D → G → Out D} (hφ : GP1 φ) (ha : FrO m fs) : FrO m (eCall φ fs) := fun ρ ρ' g g' A => OR.bind (ha ρ ρ' g g' A) fun x g1 => hφ x g g1
theorem fr_iLst (ha : FrO m fe) : FrO m (iLst fe) := fun ρ ρ' g g' A => OR.bind (ha ρ ρ' g g' A) fun x g1 => by cases x <;> first | exact rfl | exact trivial
theorem fr_iTpl (ha : FrO m fe) : FrO m (iTpl fe) := fun ρ ρ' g g' A => OR.bind (ha ρ ρ' g g' A) fun x g1 => by cases x <;> first | exact rfl | exact trivial
theorem fr_iSeq (ha : FrO m fe) : FrO m (iSeq fe) := fun ρ ρ' g g' A => OR.bind (ha ρ ρ' g g' A) fun x g1 => by cases x <;> first | exact rfl | exact trivial
theorem fr_iRngV (ha : FrO m fe) : FrO m (iRngV fe) := fun ρ ρ' g g' A => OR.bind (ha ρ ρ' g g' A) fun x g1 => by
  cases asRng x with
  | none => exact trivial
  | some p => exact OR.ite rfl trivial
theorem fr_iRan1 (ha : FrO m fs) : FrO m (iRan1 fs) := fun ρ ρ' g g' A => OR.bind (ha ρ ρ' g g' A) fun x g1 => by
  split
  · exact OR.ite rfl trivial
  · exact trivial
theorem fr_iRan2 (ha : FrO m fs) : FrO m (iRan2 fs) := fun ρ ρ' g g' A => OR.bind (ha ρ ρ' g g' A) fun x g1 => by
  split
  · exact OR.ite rfl trivial
  · exact trivial
theorem fr_eOf {f : OF'} (ha : FrO m f) : FrO m (eOf f) := fun ρ ρ' g g' A => OR.bind (ha ρ ρ' g g' A) fun x g1 => rfl
theorem fr_oLst (ha : FrO m fs) : FrO m (oLst fs) := fun ρ ρ' g g' A => OR.bind (ha ρ ρ' g g' A) fun x g1 => OR.ite rfl trivial
theorem fr_oCat (ha : FrO m fa) (hb : FrO m fb) : FrO m (oCat fa fb) := fun ρ ρ' g g' A => OR.bind (ha ρ ρ' g g' A) fun x g1 => OR.bind (hb ρ ρ' g g1 A) fun y g2 => by
  split
  · exact OR.ite rfl trivial
  · exact trivial
theorem fr_oRep (ha : FrO m fa) (hb : FrO m fb) : FrO m (oRep fa fb) := fun ρ ρ' g g' A => OR.bind (ha ρ ρ' g g' A) fun x g1 => OR.bind (hb ρ ρ' g g1 A) fun y g2 => by
  split
  · exact OR.ite rfl trivial
  · exact trivial
theorem fr_oSl {fl fh : OF} (ha : FrO m fa) (hb : FrO m fl) (hc : FrO m fh) : FrO m (oSl fa fl fh) := fun ρ ρ' g g' A => OR.bind (ha ρ ρ' g g' A) fun x g1 => OR.bind (hb ρ ρ' g g1 A) fun y g2 => OR.bind (hc ρ ρ' g g2 A) fun z g3 => by cases x <;> first | exact rfl | exact trivial
theorem fr_oList (ha : FrO m fs) : FrO m (oList fs) := fun ρ ρ' g g' A => OR.bind (ha ρ ρ' g g' A) fun x g1 => by
  split <;> first | exact rfl | exact trivial
theorem fr_tYesF : FrO m tYesF := fun ρ ρ' g g' A => rfl
theorem fr_eIxO {i : Nat} (h : i ∈ m) (ha : FrO m fj) : FrO m (eIxO i fj) := fun ρ ρ' g g' A => by
  unfold eIxO
  rw [A.2.1 i h]
  split
  · refine OR.bind (ha ρ ρ' g g' A) fun x g1 => ?_
    split
    · split <;> first | exact rfl | exact trivial
    · exact trivial
  · exact trivial
theorem fr_eLenO {i : Nat} (h : i ∈ m) : FrO m (eLenO i) := fun ρ ρ' g g' A => by
  unfold eLenO
  rw [A.2.1 i h]
  split <;> first | exact rfl | exact trivial
theorem fr_eIxA {i : Nat} (h : i ∈ m) (ha : FrO m fj) : FrO m (eIxA i fj) := fun ρ ρ' g g' A => by
  unfold eIxA
  rw [A.2.1 i h]
  split
  · exact OR.bind (ha ρ ρ' g g' A) fun x g1 => gp_ix _ _ g g1
  · exact fr_eIxO h ha ρ ρ' g g' A
theorem fr_eLenA {i : Nat} (h : i ∈ m) : FrO m (eLenA i) := fun ρ ρ' g g' A => by
  unfold eLenA
  rw [A.2.1 i h]
  split
  · exact rfl
  · exact fr_eLenO h ρ ρ' g g' A
theorem fr_vOf (ha : FrO m fs) : FrO m (vOf fs) := fun ρ ρ' g g' A => OR.bind (ha ρ ρ' g g' A) fun x g1 => rfl
theorem fr_vCons {fv : VF} (ha : FrO m fe) (hb : FrO m fv) : FrO m (vCons fe fv) := fun ρ ρ' g g' A => OR.bind (ha ρ ρ' g g' A) fun x g1 => OR.bind (hb ρ ρ' g g1 A) fun y g2 => rfl
theorem fr_vOwn {f : OF'} (ha : FrO m f) (hb : FrO m fs) : FrO m (vOwn f fs) := fun ρ ρ' g g' A => OR.bind (ha ρ ρ' g g' A) fun x g1 => OR.bind (hb ρ ρ' g g1 A) fun y g2 => rfl
theorem fr_vOwn2 {f f2 : OF'} (ha : FrO m f) (hb : FrO m f2) (hc : FrO m fs) : FrO m (vOwn2 f f2 fs) := fun ρ ρ' g g' A => OR.bind (ha ρ ρ' g g' A) fun x g1 => OR.bind (fr_vOwn hb hc ρ ρ' g g1 A) fun y g2 => rfl
theorem fr_vOwnS {f : OF'} (ha : FrO m f) (hb : FrO m fs) : FrO m (vOwnS f fs) := fun ρ ρ' g g' A => OR.bind (fr_vOwn ha hb ρ ρ' g g' A) fun y g2 => rfl
theorem gp_join {a : Str} : ∀ (y : D) (g g' : G), OR (opJoin (.str a) y g) (opJoin (.str a) y g') g := by
  intro y g g'
  unfold opJoin
  split
  · split
    · exact OR.ite rfl trivial
    · exact trivial
  · exact trivial
theorem fr_eJoin (ha : FrO m fa) (hb : FrO m fb) : FrO m (eJoin fa fb) := fun ρ ρ' g g' A => OR.bind (ha ρ ρ' g g' A) fun x g1 => by
  cases x with
  | str a => exact OR.bind (hb ρ ρ' g g1 A) fun y g2 => gp_join y g g2
  | _ => exact trivial
theorem fr_iStrS (ha : FrO m fe) : FrO m (iStrS fe) := fun ρ ρ' g g' A => OR.bind (ha ρ ρ' g g' A) fun x g1 => by cases x <;> first | exact rfl | exact trivial
theorem fr_eInO {i : Nat} {b : Bool} (ha : FrO m fa) (h : i ∈ m) : FrO m (eInO b fa i) := fun ρ ρ' g g' A => OR.bind (ha ρ ρ' g g' A) fun x g1 => by
  show OR (match ρ[i]? with | some (.own xs) => _ | _ => _) (match ρ'[i]? with | some (.own xs) => _ | _ => _) g
  rw [A.2.1 i h]
  split
  · exact OR.ite rfl trivial
  · exact trivial
theorem fr_eNeO {i : Nat} (h : i ∈ m) (hb : FrO m fb) : FrO m (eNeO i fb) := fun ρ ρ' g g' A => by
  unfold eNeO
  rw [A.2.1 i h]
  split
  · exact OR.bind (hb ρ ρ' g g' A) fun x g1 => OR.ite rfl trivial
  · exact trivial
theorem fr_eInS {i : Nat} (ha : FrO m fa) (h : i ∈ m) : FrO m (eInS fa i) := fun ρ ρ' g g' A => OR.bind (ha ρ ρ' g g' A) fun x g1 => by
  show OR (match ρ[i]? with | some (.ods xs) => _ | _ => _) (match ρ'[i]? with | some (.ods xs) => _ | _ => _) g
  rw [A.2.1 i h]
  split
  · split
    · exact rfl
    · exact trivial
  · exact trivial
theorem fr_eSortS {i : Nat} (h : i ∈ m) : FrO m (eSortS i) := fun ρ ρ' g g' A => by
  unfold eSortS
  rw [A.2.1 i h]
  split
  · exact OR.ite rfl trivial
  · exact trivial
theorem fr_vOwnD (ha : FrO m fs) : FrO m (vOwnD fs) := fun ρ ρ' g g' A => OR.bind (ha ρ ρ' g g' A) fun x g1 => rfl
theorem fr_eExF {i : Nat} {f : Str} (h : i ∈ m) : FrO m (eExF i f) := fun ρ ρ' g g' A => by
  unfold eExF
  rw [A.2.1 i h]
  split
  · split <;> first | exact rfl | exact trivial
  · exact trivial
theorem fr_eRev (ha : FrO m fa) : FrO m (eRev fa) := fun ρ ρ' g g' A => OR.bind (ha ρ ρ' g g' A) fun x g1 => by cases x <;> first | exact rfl | exact trivial
theorem fr_eRevA (ha : FrO m fa) : FrO m (eRevA fa) := fun ρ ρ' g g' A => OR.bind (ha ρ ρ' g g' A) fun x g1 => by cases x <;> first | exact rfl | exact trivial
theorem fr_eRevF (ha : FrO m fa) (hb : FrO m fb) : FrO m (eRevF fa fb) := fun ρ ρ' g g' A => OR.bind (ha ρ ρ' g g' A) fun x g1 => by
  cases x with
  | list xs => exact OR.bind (hb ρ ρ' g g1 A) fun y g2 => by cases y <;> first | exact rfl | exact trivial
  | _ => exact trivial
theorem fr_eIsi {T : String} (ha : FrO m fe) : FrO m (eIsi T fe) := fun ρ ρ' g g' A => OR.bind (ha ρ ρ' g g' A) fun x g1 => by
  cases isiD T x <;> first | exact rfl | exact trivial
theorem fr_eIndex (ha : FrO m fo) (hb : FrO m fe) : FrO m (eIndex fo fe) := fun ρ ρ' g g' A => OR.bind (ha ρ ρ' g g' A) fun x g1 => by
  cases x with
  | list xs =>
    refine OR.bind (hb ρ ρ' g g1 A) fun y g2 => ?_
    split
    · split <;> first | exact rfl | exact trivial
    · exact trivial
  | _ => exact trivial
theorem fr_pNil : FrO m pNil := fun ρ ρ' g g' A => rfl
theorem fr_pCons {f : PF} (ha : FrO m fs) (hb : FrO m fe) (hc : FrO m f) : FrO m (pCons fs fe f) := fun ρ ρ' g g' A => OR.bind (ha ρ ρ' g g' A) fun x g1 => by
  cases asInts x with
  | none => exact trivial
  | some k => exact OR.ite (OR.bind (hb ρ ρ' g g1 A) fun y g2 => by
      cases y with
      | int n => exact OR.bind (hc ρ ρ' g g2 A) fun z g3 => rfl
      | _ => exact trivial) trivial
theorem fr_eDisp {f : PF} (ha : FrO m f) : FrO m (eDisp f) := fun ρ ρ' g g' A => OR.bind (ha ρ ρ' g g' A) fun x g1 => OR.ite rfl trivial
end
def BR (m : List Nat) (o o' : Option RS) : Prop := match o' with
  | some ρ' => ∃ ρ, o = some ρ ∧ Ag m ρ ρ'
  | none => True
abbrev FrB (m m' : List Nat) (b : BF) : Prop := ∀ (x : D) (ρ ρ' : RS), Ag m ρ ρ' → BR m' (b x ρ) (b x ρ')
abbrev FrBs (m m' : List Nat) (b : List D → RS → Option RS) : Prop := ∀ (x : List D) (ρ ρ' : RS), Ag m ρ ρ' → BR m' (b x ρ) (b x ρ')
section
variable {m m1 m2 : List Nat}
theorem fr_bName {i : Nat} : FrB m (i :: m) (bName i) := fun x ρ ρ' A => ⟨_, rfl, A.set i _⟩
theorem fr_bNil : FrBs m m bNil := fun x ρ ρ' A => by
  cases x with
  | nil => exact ⟨_, rfl, A⟩
  | cons _ _ => exact trivial
theorem fr_bCons {b : BF} {bs : List D → RS → Option RS} (h1 : FrB m m1 b) (h2 : FrBs m1 m2 bs) : FrBs m m2 (bCons b bs) := fun x ρ ρ' A => by
  cases x with
  | nil => exact trivial
  | cons y r =>
    show BR m2 ((b y ρ).bind fun ρ1 => bs r ρ1) ((b y ρ').bind fun ρ1 => bs r ρ1)
    have h := h1 y ρ ρ' A
    cases q : b y ρ' with
    | none => exact trivial
    | some ρ1' =>
      rw [q] at h
      obtain ⟨ρ1, e, A1⟩ := (show ∃ ρ1, b y ρ = some ρ1 ∧ Ag m1 ρ1 ρ1' from h)
      rw [e]
      exact h2 r ρ1 ρ1' A1
theorem fr_bTup {n : Nat} {bs : List D → RS → Option RS} (h : FrBs m m1 bs) : FrB m m1 (bTup n bs) := fun x ρ ρ' A => by
  cases x with
  | tuple xs =>
    show BR m1 (if xs.length = n then bs xs ρ else none) (if xs.length = n then bs xs ρ' else none)
    split
    · exact h xs ρ ρ' A
    · exact trivial
  | _ => exact trivial
theorem fr_bUnl {n : Nat} {bs : List D → RS → Option RS} (h : FrBs m m1 bs) : FrB m m1 (bUnl n bs) := fun x ρ ρ' A => by
  cases x with
  | list xs =>
    show BR m1 (if xs.length = n then bs xs ρ else none) (if xs.length = n then bs xs ρ' else none)
    split
    · exact h xs ρ ρ' A
    · exact trivial
  | _ => exact trivial
theorem fr_compF {b : BF} {ft : TF} {fe : EF} (hb : FrB m m1 b) (ht : FrO m1 ft) (he : FrO m1 fe) : ∀ (xs : List D) (ρ ρ' : RS) (g g' : G), Ag m ρ ρ' → OR (compF b ft fe ρ xs g) (compF b ft fe ρ' xs g') g
  | [], _, _, _, _, _ => rfl
  | x :: xs, ρ, ρ', g, g', A => by
    have h := hb x ρ ρ' A
    unfold compF
    cases q : b x ρ' with
    | none => exact trivial
    | some ρ1' =>
      rw [q] at h
      obtain ⟨ρ1, e, A1⟩ := (show ∃ ρ1, b x ρ = some ρ1 ∧ Ag m1 ρ1 ρ1' from h)
      simp only [e, q]
      have h1 := ht ρ1 ρ1' g g' A1
      cases q1 : ft ρ1' g' with
      | bad => simp only [q1]; exact trivial
      | exc n fs g1 => simp only [q1]; exact trivial
      | ok k g1 =>
        rw [q1] at h1
        have h1 : ft ρ1 g = .ok k g := h1
        simp only [q1, h1]
        cases k with
        | false => exact fr_compF hb ht he xs ρ ρ' g g1 A
        | true =>
          have h2 := he ρ1 ρ1' g g1 A1
          cases q2 : fe ρ1' g1 with
          | bad => simp only [q2]; exact trivial
          | exc n fs g2 => simp only [q2]; exact trivial
          | ok d g2 =>
            rw [q2] at h2
            have h2 : fe ρ1 g = .ok d g := h2
            simp only [q2, h2]
            exact OR.ite (OR.bind (fr_compF hb ht he xs ρ ρ' g g2 A) fun r g3 => rfl) trivial
theorem fr_oComp {vs : List Nat} {fi : LF} {b : BF} {ft : TF} {fe : EF} (hi : FrO m fi) (hb : FrB (vs ++ m) m1 b) (ht : FrO m1 ft) (he : FrO m1 fe) : FrO m (oComp vs fi b ft fe) := fun ρ ρ' g g' A =>
  OR.bind (hi ρ ρ' g g' A) fun items g1 => OR.ite (fr_compF hb ht he items _ _ g g1 (A.wipe vs)) trivial
theorem fr_iOwn {i : Nat} (h : i ∈ m) : FrO m (iOwn i) := fun ρ ρ' g g' A => by
  unfold iOwn
  rw [A.2.1 i h]
  split
  · rfl
  · exact trivial
theorem fr_compF2 {vs1 m3 : List Nat} {b b1 : BF} {ft ft1 : TF} {fi1 : LF} {fe : EF} (hb : FrB m m1 b) (ht : FrO m1 ft) (hi1 : FrO m1 fi1) (hb1 : FrB (vs1 ++ m1) m3 b1) (ht1 : FrO m3 ft1) (he : FrO m3 fe) :
    ∀ (xs : List D) (ρ ρ' : RS) (g g' : G), Ag m ρ ρ' → OR (compF2 vs1 b ft fi1 b1 ft1 fe ρ xs g) (compF2 vs1 b ft fi1 b1 ft1 fe ρ' xs g') g
  | [], _, _, _, _, _ => rfl
  | x :: xs, ρ, ρ', g, g', A => by
    have h := hb x ρ ρ' A
    unfold compF2
    cases q : b x ρ' with
    | none => exact trivial
    | some ρ1' =>
      rw [q] at h
      obtain ⟨ρ1, e, A1⟩ := (show ∃ ρ1, b x ρ = some ρ1 ∧ Ag m1 ρ1 ρ1' from h)
      simp only [e, q]
      have h1 := ht ρ1 ρ1' g g' A1
      cases q1 : ft ρ1' g' with
      | bad => simp only [q1]; exact trivial
      | exc n fs g1 => simp only [q1]; exact trivial
      | ok k g1 =>
        rw [q1] at h1
        have h1 : ft ρ1 g = .ok k g := h1
        simp only [q1, h1]
        cases k with
        | false => exact fr_compF2 hb ht hi1 hb1 ht1 he xs ρ ρ' g g1 A
        | true =>
          have h2 := hi1 ρ1 ρ1' g g1 A1
          cases q2 : fi1 ρ1' g1 with
          | bad => simp only [q2]; exact trivial
          | exc n fs g2 => simp only [q2]; exact trivial
          | ok items g2 =>
            rw [q2] at h2
            have h2 : fi1 ρ1 g = .ok items g := h2
            simp only [q2, h2]
            exact OR.bind (fr_compF hb1 ht1 he items _ _ g g2 (A1.wipe vs1)) fun r g3 => OR.bind (fr_compF2 hb ht hi1 hb1 ht1 he xs ρ ρ' g g3 A) fun r2 g4 => rfl
theorem fr_oComp2 {vs vs1 m3 : List Nat} {fi fi1 : LF} {b b1 : BF} {ft ft1 : TF} {fe : EF} (hi : FrO m fi) (hb : FrB (vs ++ m) m1 b) (ht : FrO m1 ft) (hi1 : FrO m1 fi1) (hb1 : FrB (vs1 ++ m1) m3 b1) (ht1 : FrO m3 ft1) (he : FrO m3 fe) : FrO m (oComp2 vs vs1 fi b ft fi1 b1 ft1 fe) := fun ρ ρ' g g' A =>
  OR.bind (hi ρ ρ' g g' A) fun items g1 => OR.bind (fr_compF2 hb ht hi1 hb1 ht1 he items _ _ g g1 (A.wipe vs)) fun r g2 => OR.ite rfl trivial
end
def SOr (m mx : List Nat) (o o' : SO) (g : G) : Prop := match o' with
  | .nx ρ' _ => ∃ ρ, o = .nx ρ g ∧ Ag m ρ ρ'
  | .rt d _ => o = .rt d g
  | .bk ρ' _ => ∃ ρ, o = .bk ρ g ∧ Ag mx ρ ρ'
  | .ct ρ' _ => ∃ ρ, o = .ct ρ g ∧ Ag mx ρ ρ'
  | .exc n fs ρ' _ => ∃ ρ, o = .exc n fs ρ g ∧ Ag mx ρ ρ'
  | .bad => True
abbrev FrS (m m' mx : List Nat) (f : SF) : Prop := ∀ (ρ ρ' : RS) (g g' : G), Ag m ρ ρ' → SOr m' mx (f ρ g) (f ρ' g') g
section
variable {m m' m1 m2 mx : List Nat} {fe fj : EF} {fs : AF} {f k : SF} {t : TF}
theorem SOr.sub {o o' : SO} {g : G} (h : SOr m' mx o o' g) (s : Sub m m') : SOr m mx o o' g := by
  cases o' with
  | nx ρ' g' => obtain ⟨ρ, e, A⟩ := h; exact ⟨ρ, e, A.sub s⟩
  | rt d g' => exact h
  | bk ρ' g' => exact h
  | ct ρ' g' => exact h
  | exc n fs ρ' g' => exact h
  | bad => exact trivial
theorem SOr.subx {o o' : SO} {g : G} (h : SOr m m' o o' g) (s : Sub mx m') : SOr m mx o o' g := by
  cases o' with
  | nx ρ' g' => exact h
  | rt d g' => exact h
  | bk ρ' g' => obtain ⟨ρ, e, A⟩ := h; exact ⟨ρ, e, A.sub s⟩
  | ct ρ' g' => obtain ⟨ρ, e, A⟩ := h; exact ⟨ρ, e, A.sub s⟩
  | exc n fs ρ' g' => obtain ⟨ρ, e, A⟩ := h; exact ⟨ρ, e, A.sub s⟩
  | bad => exact trivial
theorem fr_weak (h : FrS m m1 mx f) (s : Sub m' m1) : FrS m m' mx f := fun ρ ρ' g g' A => (h ρ ρ' g g' A).sub s
theorem OR.go {α : Type} {o o' : Out α} {g : G} {ρ ρ' : RS} {k1 k2 : α → G → SO} (h : OR o o' g) (A : Ag m ρ ρ') (s : Sub mx m) (k : ∀ a g', SOr m' mx (k1 a g) (k2 a g') g) : SOr m' mx (o.go ρ k1) (o'.go ρ' k2) g := by
  cases o' with
  | ok a g' =>
    cases (show o = .ok a g from h)
    exact k a g'
  | exc n fs g' =>
    cases (show o = .exc n fs g from h)
    exact ⟨ρ, rfl, A.sub s⟩
  | bad => exact trivial
theorem SOr.ite {p : Prop} [Decidable p] {a b a' b' : SO} {g : G} (h1 : SOr m mx a a' g) (h2 : SOr m mx b b' g) : SOr m mx (if p then a else b) (if p then a' else b') g := by split <;> assumption
theorem fr_sNil : FrS m m mx sNil := fun ρ ρ' g g' A => ⟨ρ, rfl, A⟩
theorem fr_sBrk (s : Sub mx m) : FrS m m mx sBrk := fun ρ ρ' g g' A => ⟨ρ, rfl, A.sub s⟩
theorem fr_sCnt (s : Sub mx m) : FrS m m mx sCnt := fun ρ ρ' g g' A => ⟨ρ, rfl, A.sub s⟩
theorem fr_sSeq (h1 : FrS m m1 mx f) (h2 : FrS m1 m2 mx k) : FrS m m2 mx (sSeq f k) := fun ρ ρ' g g' A => by
  have h := h1 ρ ρ' g g' A
  unfold sSeq
  cases q : f ρ' g' with
  | nx ρ1' g1 =>
    rw [q] at h
    obtain ⟨ρ1, e, A1⟩ := h
    rw [e]
    exact h2 ρ1 ρ1' g g1 A1
  | rt d g1 => rw [q] at h; rw [show f ρ g = .rt d g from h]; exact rfl
  | bk ρ1' g1 => rw [q] at h; obtain ⟨ρ1, e, A1⟩ := h; rw [e]; exact ⟨ρ1, rfl, A1⟩
  | ct ρ1' g1 => rw [q] at h; obtain ⟨ρ1, e, A1⟩ := h; rw [e]; exact ⟨ρ1, rfl, A1⟩
  | exc n fs ρ1' g1 => rw [q] at h; obtain ⟨ρ1, e, A1⟩ := h; rw [e]; exact ⟨ρ1, rfl, A1⟩
  | bad => exact trivial
theorem fr_sExpr (he : FrO m fe) (s : Sub mx m) : FrS m m mx (sExpr fe) := fun ρ ρ' g g' A => OR.go (he ρ ρ' g g' A) A s fun a g1 => ⟨ρ, rfl, A⟩
theorem fr_sRet (he : FrO m fe) (s : Sub mx m) : FrS m m mx (sRet fe) := fun ρ ρ' g g' A => OR.go (he ρ ρ' g g' A) A s fun a g1 => rfl
theorem fr_sRetN : FrS m m mx sRetN := fun ρ ρ' g g' A => rfl
theorem fr_sIf (ht : FrO m t) (s : Sub mx m) (h1 : FrS m m1 mx f) (s1 : Sub m m1) (h2 : FrS m m2 mx k) (s2 : Sub m m2) : FrS m m mx (sIf t f k) := fun ρ ρ' g g' A =>
  OR.go (ht ρ ρ' g g' A) A s fun b g1 => SOr.ite ((h1 ρ ρ' g g1 A).sub s1) ((h2 ρ ρ' g g1 A).sub s2)
theorem fr_sSet {i : Nat} (he : FrO m fe) (s : Sub mx m) : FrS m (i :: m) mx (sSet i fe) := fun ρ ρ' g g' A => OR.go (he ρ ρ' g g' A) A s fun a g1 => ⟨_, rfl, A.set i _⟩
theorem fr_sSetO {i : Nat} {fo : OF'} (he : FrO m fo) (s : Sub mx m) : FrS m (i :: m) mx (sSetO i fo) := fun ρ ρ' g g' A => OR.go (he ρ ρ' g g' A) A s fun a g1 => ⟨_, rfl, A.set i _⟩
theorem fr_sNewD {i : Nat} : FrS m (i :: m) mx (sNewD i) := fun ρ ρ' g g' A => ⟨_, rfl, A.set i _⟩
theorem fr_sAsg {b : BF} (he : FrO m fe) (s : Sub mx m) (hb : FrB m m1 b) : FrS m m1 mx (sAsg b fe) := fun ρ ρ' g g' A => OR.go (he ρ ρ' g g' A) A s fun a g1 => by
  have h := hb a ρ ρ' A
  cases q : b a ρ' with
  | none => simp only [q]; exact trivial
  | some ρ1' =>
    rw [q] at h
    obtain ⟨ρ1, e, A1⟩ := (show ∃ ρ1, b a ρ = some ρ1 ∧ Ag m1 ρ1 ρ1' from h)
    simp only [q, e]
    exact ⟨ρ1, rfl, A1⟩
theorem fr_sPop {b : BF} {i : Nat} (h : i ∈ m) (hb : FrB m m1 b) : FrS m m1 mx (sPop i b) := fun ρ ρ' g g' A => by
  unfold sPop
  rw [A.2.1 i h]
  split
  · rename_i xs _
    split
    · rename_i d _
      have h := hb d _ _ (A.set' i (.own xs.dropLast))
      cases q : b d (ρ'.set i (.own xs.dropLast)) with
      | none => simp only [q]; exact trivial
      | some ρ1' =>
        rw [q] at h
        obtain ⟨ρ1, e, A1⟩ := (show ∃ ρ1, b d (ρ.set i (.own xs.dropLast)) = some ρ1 ∧ Ag m1 ρ1 ρ1' from h)
        simp only [q, e]
        exact ⟨ρ1, rfl, A1⟩
    · exact trivial
  · exact trivial
theorem fr_sAug {i : Nat} {φ : Int → Int → Int} (h : i ∈ m) (he : FrO m fe) (s : Sub mx m) : FrS m m mx (sAug i φ fe) := fun ρ ρ' g g' A => by
  unfold sAug
  rw [A.2.1 i h]
  split
  · refine OR.go (he ρ ρ' g g' A) A s fun a g1 => ?_
    split
    · exact ⟨_, rfl, A.set' i _⟩
    · exact trivial
  · exact trivial
theorem fr_sApp {i : Nat} (h : i ∈ m) (he : FrO m fe) (s : Sub mx m) : FrS m m mx (sApp i fe) := fun ρ ρ' g g' A => by
  unfold sApp
  rw [A.2.1 i h]
  split
  · exact OR.go (he ρ ρ' g g' A) A s fun a g1 => SOr.ite ⟨_, rfl, A.set' i _⟩ trivial
  · exact trivial
theorem fr_sExt {i : Nat} (h : i ∈ m) (he : FrO m fe) (s : Sub mx m) : FrS m m mx (sExt i fe) := fun ρ ρ' g g' A => by
  unfold sExt
  rw [A.2.1 i h]
  split
  · refine OR.go (he ρ ρ' g g' A) A s fun a g1 => ?_
    split
    · exact SOr.ite ⟨_, rfl, A.set' i _⟩ trivial
    · exact trivial
  · exact trivial
theorem fr_sSetIx {i : Nat} (h : i ∈ m) (he : FrO m fe) (hj : FrO m fj) (s : Sub mx m) : FrS m m mx (sSetIx i fe fj) := fun ρ ρ' g g' A => by
  unfold sSetIx
  rw [A.2.1 i h]
  split
  · refine OR.go (he ρ ρ' g g' A) A s fun a g1 => OR.go (hj ρ ρ' g g1 A) A s fun j g2 => ?_
    split
    · split
      · exact SOr.ite ⟨_, rfl, A.set' i _⟩ trivial
      · exact trivial
    · exact trivial
  · exact trivial
theorem fr_sAugIx {i : Nat} {φ : Int → Int → Int} (h : i ∈ m) (hj : FrO m fj) (he : FrO m fe) (s : Sub mx m) : FrS m m mx (sAugIx i φ fj fe) := fun ρ ρ' g g' A => by
  unfold sAugIx
  rw [A.2.1 i h]
  split
  · refine OR.go (hj ρ ρ' g g' A) A s fun a g1 => ?_
    split
    · split
      · split
        · refine OR.go (he ρ ρ' g g1 A) A s fun j g2 => ?_
          split
          · exact ⟨_, rfl, A.set' i _⟩
          · exact trivial
        · exact trivial
      · exact trivial
    · exact trivial
  · exact trivial
theorem fr_sPutD {i : Nat} (h : i ∈ m) (hk : FrO m fs) (he : FrO m fe) (s : Sub mx m) : FrS m m mx (sPutD i fs fe) := fun ρ ρ' g g' A => by
  unfold sPutD
  rw [A.2.1 i h]
  split
  · refine OR.go (he ρ ρ' g g' A) A s fun a g1 => OR.go (hk ρ ρ' g g1 A) A s fun ks g2 => ?_
    split
    · rename_i n k _
      by_cases q : sole ρ' i = true
      · rw [q, A.sole q]
        exact SOr.ite ⟨_, rfl, A.set' i _⟩ trivial
      · rw [if_neg (c := _ ∧ _ ∧ sole ρ' i = true) fun z => q z.2.2]
        exact trivial
    · exact trivial
  · exact trivial
theorem fr_sNewS {i : Nat} : FrS m (i :: m) mx (sNewS i) := fun ρ ρ' g g' A => ⟨_, rfl, A.set i _⟩
theorem fr_sPutS {i : Nat} (h : i ∈ m) (hk : FrO m fa) (he : FrO m fe) (s : Sub mx m) : FrS m m mx (sPutS i fa fe) := fun ρ ρ' g g' A => by
  unfold sPutS
  rw [A.2.1 i h]
  split
  · refine OR.go (he ρ ρ' g g' A) A s fun a g1 => OR.go (hk ρ ρ' g g1 A) A s fun ks g2 => ?_
    split
    · by_cases q : soleS ρ' i = true
      · rw [q, A.soleS q]
        exact SOr.ite ⟨_, rfl, A.set' i _⟩ trivial
      · rw [if_neg (c := _ ∧ soleS ρ' i = true) fun z => q z.2]
        exact trivial
    · exact trivial
  · exact trivial
theorem fr_sFrz {i : Nat} (h : i ∈ m) (hf : FrS m m' mx f) : FrS m m' mx (sFrz i f) := fun ρ ρ' g g' A => by
  unfold sFrz
  rw [A.2.1 i h]
  split
  · exact hf _ _ g g' (A.set' i _)
  · exact hf ρ ρ' g g' A
theorem fr_sFrzD {i : Nat} (h : i ∈ m) (hf : FrS m m' mx f) : FrS m m' mx (sFrzD i f) := fun ρ ρ' g g' A => by
  unfold sFrzD
  rw [A.2.1 i h]
  split
  · by_cases q : sole ρ' i = true
    · rw [if_pos q, if_pos (A.sole q)]
      exact hf _ _ g g' (A.set' i _)
    · rw [if_neg q]
      exact trivial
  · exact hf ρ ρ' g g' A
theorem Ag.setAll : ∀ {is : List Nat} {ss : List SV} {m : List Nat} {ρ ρ' : RS}, Ag m ρ ρ' → is.length = ss.length → Ag (is ++ m) (setAll ρ is ss) (setAll ρ' is ss)
  | [], [], _, _, _, A, _ => A
  | [], _ :: _, _, _, _, _, h => by cases h
  | i :: is, [], _, _, _, _, h => by cases h
  | i :: is, s :: ss, m, ρ, ρ', A, h => by
    have := Ag.setAll (is := is) (ss := ss) (A.set i s) (by simpa using h)
    refine this.sub fun j hj => ?_
    simp only [List.cons_append, List.mem_cons, List.mem_append] at hj ⊢
    rcases hj with h | h | h
    · exact .inr (.inl h)
    · exact .inl h
    · exact .inr (.inr h)
theorem fr_sTup {is : List Nat} {fv : VF} (he : FrO m fv) (s : Sub mx m) : FrS m (is ++ m) mx (sTup is fv) := fun ρ ρ' g g' A => OR.go (he ρ ρ' g g' A) A s fun ss g1 => by
  by_cases q : ss.length = is.length
  · rw [if_pos q, if_pos q]
    exact ⟨_, rfl, A.setAll q.symm⟩
  · rw [if_neg q, if_neg q]
    exact trivial
theorem fr_sRaise {n fld : Str} (he : FrO m fe) (s : Sub mx m) : FrS m m mx (sRaise n fld fe) := fun ρ ρ' g g' A => OR.go (he ρ ρ' g g' A) A s fun a g1 => by
  split
  · exact SOr.ite ⟨ρ, rfl, A.sub s⟩ trivial
  · exact trivial
theorem fr_forL {b : BF} (hb : FrB m m1 b) (hf : FrS m1 m2 m f) (s2 : Sub m m2) : ∀ (xs : List D) (ρ ρ' : RS) (g g' : G), Ag m ρ ρ' → SOr m m (forL b f xs ρ g) (forL b f xs ρ' g') g
  | [], ρ, _, _, _, A => ⟨ρ, rfl, A⟩
  | x :: xs, ρ, ρ', g, g', A => by
    have h := hb x ρ ρ' A
    unfold forL
    cases q : b x ρ' with
    | none => exact trivial
    | some ρ1' =>
      rw [q] at h
      obtain ⟨ρ1, e, A1⟩ := (show ∃ ρ1, b x ρ = some ρ1 ∧ Ag m1 ρ1 ρ1' from h)
      rw [e]
      have h1 := hf ρ1 ρ1' g g' A1
      cases q1 : f ρ1' g' with
      | nx ρ2' g2 =>
        rw [q1] at h1
        obtain ⟨ρ2, e2, A2⟩ := h1
        simp only [q1, e2]
        exact fr_forL hb hf s2 xs ρ2 ρ2' g g2 (A2.sub s2)
      | ct ρ2' g2 =>
        rw [q1] at h1
        obtain ⟨ρ2, e2, A2⟩ := h1
        simp only [q1, e2]
        exact fr_forL hb hf s2 xs ρ2 ρ2' g g2 A2
      | bk ρ2' g2 =>
        rw [q1] at h1
        obtain ⟨ρ2, e2, A2⟩ := h1
        simp only [q1, e2]
        exact ⟨ρ2, rfl, A2⟩
      | rt d g2 =>
        rw [q1] at h1
        simp only [q1, show f ρ1 g = .rt d g from h1]
        exact rfl
      | exc n fs ρ2' g2 =>
        rw [q1] at h1
        obtain ⟨ρ2, e2, A2⟩ := h1
        simp only [q1, e2]
        exact ⟨ρ2, rfl, A2⟩
      | bad => simp only [q1]; exact trivial
theorem fr_sFor {fi : LF} {b : BF} (hi : FrO m fi) (s : Sub mx m) (hb : FrB m m1 b) (hf : FrS m1 m2 m f) (s2 : Sub m m2) : FrS m m mx (sFor fi b f) := fun ρ ρ' g g' A =>
  OR.go (hi ρ ρ' g g' A) A s fun items g1 => (fr_forL hb hf s2 items ρ ρ' g g1 A).subx s
theorem fr_whileF (ht : FrO m t) (hf : FrS m m2 m f) (s2 : Sub m m2) : ∀ (n : Nat) (ρ ρ' : RS) (g g' : G), Ag m ρ ρ' → SOr m m (whileF t f n ρ g) (whileF t f n ρ' g') g
  | 0, _, _, _, _, _ => trivial
  | n + 1, ρ, ρ', g, g', A => by
    unfold whileF
    refine OR.go (mx := m) (ht ρ ρ' g g' A) A (fun _ h => h) fun k g1 => SOr.ite ?_ ⟨ρ, rfl, A⟩
    have h1 := hf ρ ρ' g g1 A
    cases q1 : f ρ' g1 with
    | nx ρ2' g2 =>
      rw [q1] at h1
      obtain ⟨ρ2, e2, A2⟩ := h1
      simp only [q1, e2]
      exact fr_whileF ht hf s2 n ρ2 ρ2' g g2 (A2.sub s2)
    | ct ρ2' g2 =>
      rw [q1] at h1
      obtain ⟨ρ2, e2, A2⟩ := h1
      simp only [q1, e2]
      exact fr_whileF ht hf s2 n ρ2 ρ2' g g2 A2
    | bk ρ2' g2 =>
      rw [q1] at h1
      obtain ⟨ρ2, e2, A2⟩ := h1
      simp only [q1, e2]
      exact ⟨ρ2, rfl, A2⟩
    | rt d g2 =>
      rw [q1] at h1
      simp only [q1, show f ρ g = .rt d g from h1]
      exact rfl
    | exc n fs ρ2' g2 =>
      rw [q1] at h1
      obtain ⟨ρ2, e2, A2⟩ := h1
      simp only [q1, e2]
      exact ⟨ρ2, rfl, A2⟩
    | bad => simp only [q1]; exact trivial
theorem fr_sWhile {n : Nat} (s : Sub mx m) (ht : FrO m t) (hf : FrS m m2 m f) (s2 : Sub m m2) : FrS m m mx (sWhile n t f) := fun ρ ρ' g g' A => (fr_whileF ht hf s2 n ρ ρ' g g' A).subx s
theorem fr_sTry {i : Nat} {n : Str} {fb fh : SF} (s : Sub mx m) (hb : FrS m m1 m fb) (s1 : Sub m m1) (hh : FrS (i :: m) m2 m fh) (s2 : Sub m m2) : FrS m m mx (sTry i n fb fh) := fun ρ ρ' g g' A => by
  have h := hb ρ ρ' g g' A
  unfold sTry
  cases q : fb ρ' g' with
  | nx ρ1' g1 => rw [q] at h; obtain ⟨ρ1, e, A1⟩ := h; rw [e]; exact ⟨ρ1, rfl, A1.sub s1⟩
  | rt d g1 => rw [q] at h; rw [show fb ρ g = .rt d g from h]; exact rfl
  | bk ρ1' g1 => rw [q] at h; obtain ⟨ρ1, e, A1⟩ := h; rw [e]; exact ⟨ρ1, rfl, A1.sub s⟩
  | ct ρ1' g1 => rw [q] at h; obtain ⟨ρ1, e, A1⟩ := h; rw [e]; exact ⟨ρ1, rfl, A1.sub s⟩
  | bad => exact trivial
  | exc k fs ρ1' g1 =>
    rw [q] at h
    obtain ⟨ρ1, e, A1⟩ := h
    rw [e]
    show SOr m mx (if k = n then _ else _) (if k = n then _ else _) g
    split
    · by_cases nx : noEx ρ1' = true
      · rw [if_pos nx, if_pos (A1.noEx nx)]
        have h2 := hh _ _ g g1 (A1.set i (.ex fs))
        cases q2 : fh (ρ1'.set i (.ex fs)) g1 with
        | nx ρ2' g2 =>
          rw [q2] at h2
          obtain ⟨ρ2, e2, A2⟩ := h2
          simp only [e2]
          by_cases ny : noEx (ρ2'.set i .un) = true
          · rw [if_pos ny, if_pos (((A2.sub s2).set' i _).noEx ny)]
            exact ⟨_, rfl, (A2.sub s2).set' i _⟩
          · rw [if_neg ny]; exact trivial
        | bk ρ2' g2 =>
          rw [q2] at h2
          obtain ⟨ρ2, e2, A2⟩ := h2
          simp only [e2]
          by_cases ny : noEx (ρ2'.set i .un) = true
          · rw [if_pos ny, if_pos ((A2.set' i _).noEx ny)]
            exact ⟨_, rfl, (A2.set' i _).sub s⟩
          · rw [if_neg ny]; exact trivial
        | ct ρ2' g2 =>
          rw [q2] at h2
          obtain ⟨ρ2, e2, A2⟩ := h2
          simp only [e2]
          by_cases ny : noEx (ρ2'.set i .un) = true
          · rw [if_pos ny, if_pos ((A2.set' i _).noEx ny)]
            exact ⟨_, rfl, (A2.set' i _).sub s⟩
          · rw [if_neg ny]; exact trivial
        | rt d g2 =>
          rw [q2] at h2
          simp only [show fh (ρ1.set i (.ex fs)) g = .rt d g from h2]
          exact rfl
        | exc _ _ _ _ => exact trivial
        | bad => exact trivial
      · rw [if_neg nx]; exact trivial
    · exact ⟨ρ1, rfl, A1.sub s⟩
theorem fr_hnd {i : Nat} {fh : SF} {m2 : List Nat} (s : Sub mx m) (hh : FrS (i :: m) m2 m fh) (s2 : Sub m m2) {fs : List (Str × D)} {ρ1 ρ1' : RS} {g g1 : G} (A1 : Ag m ρ1 ρ1') : SOr m mx (sHnd i fh fs ρ1 g) (sHnd i fh fs ρ1' g1) g := by
  unfold sHnd
  by_cases nx : noEx ρ1' = true
  · rw [if_pos nx, if_pos (A1.noEx nx)]
    have h2 := hh _ _ g g1 (A1.set i (.ex fs))
    cases q2 : fh (ρ1'.set i (.ex fs)) g1 with
    | nx ρ2' g2 =>
      rw [q2] at h2
      obtain ⟨ρ2, e2, A2⟩ := h2
      simp only [e2]
      by_cases ny : noEx (ρ2'.set i .un) = true
      · rw [if_pos ny, if_pos (((A2.sub s2).set' i _).noEx ny)]
        exact ⟨_, rfl, (A2.sub s2).set' i _⟩
      · rw [if_neg ny]; exact trivial
    | bk ρ2' g2 =>
      rw [q2] at h2
      obtain ⟨ρ2, e2, A2⟩ := h2
      simp only [e2]
      by_cases ny : noEx (ρ2'.set i .un) = true
      · rw [if_pos ny, if_pos ((A2.set' i _).noEx ny)]
        exact ⟨_, rfl, (A2.set' i _).sub s⟩
      · rw [if_neg ny]; exact trivial
    | ct ρ2' g2 =>
      rw [q2] at h2
      obtain ⟨ρ2, e2, A2⟩ := h2
      simp only [e2]
      by_cases ny : noEx (ρ2'.set i .un) = true
      · rw [if_pos ny, if_pos ((A2.set' i _).noEx ny)]
        exact ⟨_, rfl, (A2.set' i _).sub s⟩
      · rw [if_neg ny]; exact trivial
    | rt d g2 =>
      rw [q2] at h2
      simp only [show fh (ρ1.set i (.ex fs)) g = .rt d g from h2]
      exact rfl
    | exc _ _ _ _ => exact trivial
    | bad => exact trivial
  · rw [if_neg nx]; exact trivial
theorem fr_hndM : ∀ {l : List (Nat × Str × SF)} (s : Sub mx m) (hl : ∀ t ∈ l, ∃ m2, FrS (t.1 :: m) m2 m t.2.2 ∧ Sub m m2) {k : Str} {fs : List (Str × D)} {ρ1 ρ1' : RS} {g g1 : G} (A1 : Ag m ρ1 ρ1'), SOr m mx (hndM k fs ρ1 g l) (hndM k fs ρ1' g1 l) g
  | [], s, hl, k, fs, ρ1, ρ1', g, g1, A1 => ⟨ρ1, rfl, A1.sub s⟩
  | (i, n, fh) :: r, s, hl, k, fs, ρ1, ρ1', g, g1, A1 => by
    obtain ⟨m2, h1, h2⟩ := hl _ List.mem_cons_self
    show SOr m mx (if k = n then _ else _) (if k = n then _ else _) g
    split
    · exact fr_hnd s h1 h2 A1
    · exact fr_hndM s (fun t ht => hl t (List.mem_cons_of_mem _ ht)) A1
theorem fr_sTryM {fb : SF} {l : List (Nat × Str × SF)} (s : Sub mx m) (hb : FrS m m1 m fb) (s1 : Sub m m1) (hl : ∀ t ∈ l, ∃ m2, FrS (t.1 :: m) m2 m t.2.2 ∧ Sub m m2) : FrS m m mx (sTryM fb l) := fun ρ ρ' g g' A => by
  have h := hb ρ ρ' g g' A
  unfold sTryM
  cases q : fb ρ' g' with
  | nx ρ1' g1 => rw [q] at h; obtain ⟨ρ1, e, A1⟩ := h; rw [e]; exact ⟨ρ1, rfl, A1.sub s1⟩
  | rt d g1 => rw [q] at h; rw [show fb ρ g = .rt d g from h]; exact rfl
  | bk ρ1' g1 => rw [q] at h; obtain ⟨ρ1, e, A1⟩ := h; rw [e]; exact ⟨ρ1, rfl, A1.sub s⟩
  | ct ρ1' g1 => rw [q] at h; obtain ⟨ρ1, e, A1⟩ := h; rw [e]; exact ⟨ρ1, rfl, A1.sub s⟩
  | bad => exact trivial
  | exc k fs ρ1' g1 =>
    rw [q] at h
    obtain ⟨ρ1, e, A1⟩ := h
    rw [e]
    exact fr_hndM s hl A1
theorem frm_nil : ∀ t ∈ ([] : List (Nat × Str × SF)), ∃ m2, FrS (t.1 :: m) m2 m t.2.2 ∧ Sub m m2 := fun t ht => nomatch ht
theorem frm_cons {i : Nat} {n : Str} {fh : SF} {m2 : List Nat} {l : List (Nat × Str × SF)} (h1 : FrS (i :: m) m2 m fh) (h2 : Sub m m2) (r : ∀ t ∈ l, ∃ m2, FrS (t.1 :: m) m2 m t.2.2 ∧ Sub m m2) : ∀ t ∈ (i, n, fh) :: l, ∃ m2, FrS (t.1 :: m) m2 m t.2.2 ∧ Sub m m2 := fun t ht => by
  rcases List.mem_cons.mp ht with rfl | h
  · exact ⟨m2, h1, h2⟩
  · exact r t h
end
theorem gp_m {n np : Nat} {f : SF} {m1 : List Nat} (h : FrS (List.range n) m1 [] f) : GP1 (mOf n np f) := fun ds g g' => by
  unfold mOf
  refine OR.ite ?_ trivial
  unfold runB
  have h := h (startR n ds) (startR n ds) g g' Ag.refl
  cases q : f (startR n ds) g' with
  | nx ρ1' g1 => rw [q] at h; obtain ⟨ρ1, e, _⟩ := h; rw [e]; exact rfl
  | rt d g1 => rw [q] at h; rw [show f (startR n ds) g = .rt d g from h]; exact rfl
  | exc n fs ρ1' g1 => rw [q] at h; obtain ⟨ρ1, e, _⟩ := h; rw [e]; exact rfl
  | _ => exact trivial
theorem gp_ok {m : List D → G → Out D} (h : GP1 m) {ds : List D} {d : D} {g' g1 : G} (e : m ds g' = .ok d g1) (g : G) : m ds g = .ok d g := by
  have := h ds g g'
  rw [e] at this
  exact this
end DL
namespace K46
open PySem
open PySem.Spec
open PyProof.Rows
open L2
open DL
theorem gp_is_whole : GP1 m_is_whole := gp_m (n := 3) (np := 3) (f := sem_is_whole)
 (show FrS _ _ _ (sRet (eAnd (eIsi "int" (eV 0)) (eAnd (eNot (eIsi "bool" (eV 0))) (eChain (fun i j => decide (i ≤ j)) (fun i j => decide (i ≤ j)) (eV 1) (eV 0) (eV 2))))) from (fr_sRet (fr_eAnd (fr_eIsi (fr_eV (by decide +kernel))) (fr_eAnd (fr_eNot (fr_eIsi (fr_eV (by decide +kernel)))) (fr_eChain (fr_eV (by decide +kernel)) (fr_eV (by decide +kernel)) (fr_eV (by decide +kernel))))) (by decide +kernel)))
theorem gp_best_parts : GP1 m_best_parts := gp_m (n := 8) (np := 3) (f := sem_best_parts)
 (fr_sSeq (fr_sTup (fr_vOwn (fr_oLst fr_aNil) (fr_aCons fr_eC fr_aNil)) (by decide +kernel))
 (fr_sSeq (fr_sFor (fr_iRan2 (fr_aCons fr_eC (fr_aCons (fr_eBin gp_add (fr_eV (by decide +kernel)) fr_eC) fr_aNil))) (by decide +kernel) fr_bName (fr_sSeq (fr_sSet (fr_eBin gp_div (fr_eBin gp_add (fr_eBin gp_mul (fr_eBin gp_mul fr_eC (fr_eV (by decide +kernel))) (fr_eV (by decide +kernel))) (fr_eV (by decide +kernel))) (fr_eBin gp_mul fr_eC (fr_eV (by decide +kernel)))) (by decide +kernel))
 (fr_sSeq (fr_sSet (fr_eCall gp_abs (fr_aCons (fr_eBin gp_sub (fr_eBin gp_mul (fr_eV (by decide +kernel)) (fr_eV (by decide +kernel))) (fr_eBin gp_mul (fr_eV (by decide +kernel)) (fr_eV (by decide +kernel)))) fr_aNil)) (by decide +kernel))
 (fr_sIf (fr_tOrF (fr_tVal (fr_eIsN (fr_eV (by decide +kernel)))) (fr_tVal (fr_eBin gp_I (fr_eBin gp_mul (fr_eV (by decide +kernel)) (fr_eBin gp_ix (fr_eV (by decide +kernel)) fr_eC)) (fr_eBin gp_mul (fr_eBin gp_ix (fr_eV (by decide +kernel)) fr_eC) (fr_eV (by decide +kernel)))))) (by decide +kernel) (fr_sSeq (fr_sSet (fr_eTup (fr_aCons (fr_eV (by decide +kernel)) (fr_aCons (fr_eV (by decide +kernel)) fr_aNil))) (by decide +kernel))
 (fr_sApp (by decide +kernel) (fr_eTup (fr_aCons (fr_eV (by decide +kernel)) (fr_aCons (fr_eV (by decide +kernel)) fr_aNil))) (by decide +kernel))) (by decide +kernel) fr_sNil (by decide +kernel)))) (by decide +kernel))
 (fr_sFrz (by decide +kernel) (fr_sRet (fr_eV (by decide +kernel)) (by decide +kernel)))))
theorem gp_between : GP1 m_between := gp_m (n := 5) (np := 2) (f := sem_between)
 (fr_sSeq (fr_sTup (fr_vOf (fr_aCons (fr_eTup (fr_aCons fr_eC (fr_aCons fr_eC fr_aNil))) (fr_aCons (fr_eTup (fr_aCons fr_eC (fr_aCons fr_eC fr_aNil))) fr_aNil))) (by decide +kernel))
 (fr_sWhile (by decide +kernel) (fr_tTru fr_eC) (fr_sSeq (fr_sSet (fr_eTup (fr_aCons (fr_eBin gp_add (fr_eBin gp_ix (fr_eV (by decide +kernel)) fr_eC) (fr_eBin gp_ix (fr_eV (by decide +kernel)) fr_eC)) (fr_aCons (fr_eBin gp_add (fr_eBin gp_ix (fr_eV (by decide +kernel)) fr_eC) (fr_eBin gp_ix (fr_eV (by decide +kernel)) fr_eC)) fr_aNil))) (by decide +kernel))
 (fr_sIf (fr_tVal (fr_eBin gp_I (fr_eBin gp_mul (fr_eBin gp_ix (fr_eV (by decide +kernel)) fr_eC) (fr_eBin gp_ix (fr_eV (by decide +kernel)) fr_eC)) (fr_eBin gp_mul (fr_eBin gp_ix (fr_eV (by decide +kernel)) fr_eC) (fr_eBin gp_ix (fr_eV (by decide +kernel)) fr_eC)))) (by decide +kernel) (fr_sSet (fr_eV (by decide +kernel)) (by decide +kernel)) (by decide +kernel) (fr_sIf (fr_tVal (fr_eBin gp_I (fr_eBin gp_mul (fr_eBin gp_ix (fr_eV (by decide +kernel)) fr_eC) (fr_eBin gp_ix (fr_eV (by decide +kernel)) fr_eC)) (fr_eBin gp_mul (fr_eBin gp_ix (fr_eV (by decide +kernel)) fr_eC) (fr_eBin gp_ix (fr_eV (by decide +kernel)) fr_eC)))) (by decide +kernel) (fr_sSet (fr_eV (by decide +kernel)) (by decide +kernel)) (by decide +kernel) (fr_sRet (fr_eV (by decide +kernel)) (by decide +kernel)) (by decide +kernel)) (by decide +kernel))) (by decide +kernel)))
theorem gp_way_to : GP1 m_way_to := gp_m (n := 6) (np := 2) (f := sem_way_to)
 (fr_sSeq (fr_sTup (fr_vOf (fr_aCons (fr_eTup (fr_aCons fr_eC (fr_aCons fr_eC fr_aNil))) (fr_aCons (fr_eTup (fr_aCons fr_eC (fr_aCons fr_eC fr_aNil))) (fr_aCons fr_eC fr_aNil)))) (by decide +kernel))
 (fr_sWhile (by decide +kernel) (fr_tTru fr_eC) (fr_sSeq (fr_sSet (fr_eTup (fr_aCons (fr_eBin gp_add (fr_eBin gp_ix (fr_eV (by decide +kernel)) fr_eC) (fr_eBin gp_ix (fr_eV (by decide +kernel)) fr_eC)) (fr_aCons (fr_eBin gp_add (fr_eBin gp_ix (fr_eV (by decide +kernel)) fr_eC) (fr_eBin gp_ix (fr_eV (by decide +kernel)) fr_eC)) fr_aNil))) (by decide +kernel))
 (fr_sSeq (fr_sIf (fr_tVal (fr_eBin gp_eq (fr_eBin gp_mul (fr_eV (by decide +kernel)) (fr_eBin gp_ix (fr_eV (by decide +kernel)) fr_eC)) (fr_eBin gp_mul (fr_eBin gp_ix (fr_eV (by decide +kernel)) fr_eC) (fr_eV (by decide +kernel))))) (by decide +kernel) (fr_sRet (fr_eV (by decide +kernel)) (by decide +kernel)) (by decide +kernel) fr_sNil (by decide +kernel))
 (fr_sIf (fr_tVal (fr_eBin gp_I (fr_eBin gp_mul (fr_eV (by decide +kernel)) (fr_eBin gp_ix (fr_eV (by decide +kernel)) fr_eC)) (fr_eBin gp_mul (fr_eBin gp_ix (fr_eV (by decide +kernel)) fr_eC) (fr_eV (by decide +kernel))))) (by decide +kernel) (fr_sTup (fr_vOf (fr_aCons (fr_eV (by decide +kernel)) (fr_aCons (fr_eBin gp_add (fr_eV (by decide +kernel)) fr_eC) fr_aNil))) (by decide +kernel)) (by decide +kernel) (fr_sTup (fr_vOf (fr_aCons (fr_eV (by decide +kernel)) (fr_aCons (fr_eBin gp_add (fr_eV (by decide +kernel)) fr_eC) fr_aNil))) (by decide +kernel)) (by decide +kernel)))) (by decide +kernel)))
theorem gp_row_of_parts : GP1 m_row_of_parts := gp_m (n := 5) (np := 1) (f := sem_row_of_parts)
 (fr_sSeq (fr_sTup (fr_vOwn (fr_oLst (fr_aCons (fr_eTup (fr_aCons fr_eC (fr_aCons fr_eC fr_aNil))) fr_aNil)) (fr_aCons (fr_eTup (fr_aCons fr_eC (fr_aCons fr_eC fr_aNil))) (fr_aCons (fr_eTup (fr_aCons fr_eC (fr_aCons (fr_eV (by decide +kernel)) fr_aNil))) fr_aNil))) (by decide +kernel))
 (fr_sSeq (fr_sWhile (by decide +kernel) (fr_tVal (fr_eBin gp_I (fr_eBin gp_ix (fr_eV (by decide +kernel)) fr_eC) (fr_eBin gp_ix (fr_eV (by decide +kernel)) fr_eC))) (fr_sSeq (fr_sApp (by decide +kernel) (fr_eV (by decide +kernel)) (by decide +kernel))
 (fr_sSeq (fr_sSet (fr_eBin gp_div (fr_eBin gp_add (fr_eV (by decide +kernel)) (fr_eBin gp_ix (fr_eV (by decide +kernel)) fr_eC)) (fr_eBin gp_ix (fr_eV (by decide +kernel)) fr_eC)) (by decide +kernel))
 (fr_sTup (fr_vOf (fr_aCons (fr_eV (by decide +kernel)) (fr_aCons (fr_eTup (fr_aCons (fr_eBin gp_sub (fr_eBin gp_mul (fr_eV (by decide +kernel)) (fr_eBin gp_ix (fr_eV (by decide +kernel)) fr_eC)) (fr_eBin gp_ix (fr_eV (by decide +kernel)) fr_eC)) (fr_aCons (fr_eBin gp_sub (fr_eBin gp_mul (fr_eV (by decide +kernel)) (fr_eBin gp_ix (fr_eV (by decide +kernel)) fr_eC)) (fr_eBin gp_ix (fr_eV (by decide +kernel)) fr_eC)) fr_aNil))) fr_aNil))) (by decide +kernel)))) (by decide +kernel))
 (fr_sFrz (by decide +kernel) (fr_sRet (fr_eV (by decide +kernel)) (by decide +kernel)))))
theorem gp_beside : GP1 m_beside := gp_m (n := 6) (np := 1) (f := sem_beside)
 (fr_sSeq (fr_sSetO (fr_oLst fr_aNil) (by decide +kernel))
 (fr_sSeq (fr_sFor (fr_iRan1 (fr_aCons fr_eC fr_aNil)) (by decide +kernel) fr_bName (fr_sSeq (fr_sAsg (fr_eOf (fr_oComp (fr_iRan1 (fr_aCons fr_eC fr_aNil)) fr_bName (fr_tVal (fr_eBin gp_ne (fr_eV (by decide +kernel)) (fr_eV (by decide +kernel)))) (fr_eBin gp_ix (fr_eV (by decide +kernel)) (fr_eV (by decide +kernel))))) (by decide +kernel) (fr_bUnl (fr_bCons fr_bName (fr_bCons fr_bName fr_bNil))))
 (fr_sApp (by decide +kernel) (fr_eCall gp_tuple (fr_aCons (fr_eCall gp_sortA (fr_aCons (fr_eTup (fr_aCons (fr_eV (by decide +kernel)) (fr_aCons (fr_eV (by decide +kernel)) (fr_aCons (fr_eBin gp_sub (fr_eBin gp_mul (fr_eBin gp_mul fr_eC (fr_eV (by decide +kernel))) (fr_eV (by decide +kernel))) (fr_eBin gp_ix (fr_eV (by decide +kernel)) (fr_eV (by decide +kernel)))) fr_aNil)))) fr_aNil)) fr_aNil)) (by decide +kernel))) (by decide +kernel))
 (fr_sFrz (by decide +kernel) (fr_sRet (fr_eCall gp_sortSetT (fr_aCons (fr_eV (by decide +kernel)) fr_aNil)) (by decide +kernel)))))
theorem gp__law_divisor : GP1 m__law_divisor := gp_m (n := 2) (np := 2) (f := sem__law_divisor)
 (fr_sSeq (fr_sWhile (by decide +kernel) (fr_tVal (fr_eBin gp_ne (fr_eV (by decide +kernel)) fr_eC)) (show FrS _ _ _ (sTup [0, 1] (vOf (aCons (eV 1) (aCons (eBin opMod (eCall bInt (aCons (eV 0) aNil)) (eV 1)) aNil)))) from (fr_sTup (fr_vOf (fr_aCons (fr_eV (by decide +kernel)) (fr_aCons (fr_eBin gp_mod (fr_eCall gp_int (fr_aCons (fr_eV (by decide +kernel)) fr_aNil)) (fr_eV (by decide +kernel))) fr_aNil))) (by decide +kernel))) (by decide +kernel))
 (fr_sRet (fr_eCall gp_abs (fr_aCons (fr_eV (by decide +kernel)) fr_aNil)) (by decide +kernel)))
theorem gp__law_best : GP1 m__law_best := gp_m (n := 9) (np := 3) (f := sem__law_best)
 (fr_sSeq (fr_sTup (fr_vOwn (fr_oLst fr_aNil) (fr_aCons fr_eC fr_aNil)) (by decide +kernel))
 (fr_sSeq (fr_sFor (fr_iRan2 (fr_aCons fr_eC (fr_aCons (fr_eBin gp_add (fr_eV (by decide +kernel)) fr_eC) fr_aNil))) (by decide +kernel) fr_bName (fr_sSeq (fr_sSet (fr_eBin gp_div (fr_eBin gp_mul (fr_eV (by decide +kernel)) (fr_eV (by decide +kernel))) (fr_eV (by decide +kernel))) (by decide +kernel))
 (fr_sSeq (fr_sSet (fr_eIf (fr_tVal (fr_eBin gp_I (fr_eBin gp_sub (fr_eBin gp_mul (fr_eV (by decide +kernel)) (fr_eV (by decide +kernel))) (fr_eBin gp_mul (fr_eV (by decide +kernel)) (fr_eV (by decide +kernel)))) (fr_eBin gp_sub (fr_eBin gp_mul (fr_eBin gp_add (fr_eV (by decide +kernel)) fr_eC) (fr_eV (by decide +kernel))) (fr_eBin gp_mul (fr_eV (by decide +kernel)) (fr_eV (by decide +kernel)))))) (fr_eV (by decide +kernel)) (fr_eBin gp_add (fr_eV (by decide +kernel)) fr_eC)) (by decide +kernel))
 (fr_sSeq (fr_sSet (fr_eCall gp_abs (fr_aCons (fr_eBin gp_sub (fr_eBin gp_mul (fr_eV (by decide +kernel)) (fr_eV (by decide +kernel))) (fr_eBin gp_mul (fr_eV (by decide +kernel)) (fr_eV (by decide +kernel)))) fr_aNil)) (by decide +kernel))
 (fr_sIf (fr_tOrF (fr_tVal (fr_eIsN (fr_eV (by decide +kernel)))) (fr_tVal (fr_eBin gp_I (fr_eBin gp_mul (fr_eV (by decide +kernel)) (fr_eBin gp_ix (fr_eV (by decide +kernel)) fr_eC)) (fr_eBin gp_mul (fr_eBin gp_ix (fr_eV (by decide +kernel)) fr_eC) (fr_eV (by decide +kernel)))))) (by decide +kernel) (fr_sSeq (fr_sSet (fr_eTup (fr_aCons (fr_eV (by decide +kernel)) (fr_aCons (fr_eV (by decide +kernel)) fr_aNil))) (by decide +kernel))
 (fr_sApp (by decide +kernel) (fr_eTup (fr_aCons (fr_eV (by decide +kernel)) (fr_aCons (fr_eV (by decide +kernel)) fr_aNil))) (by decide +kernel))) (by decide +kernel) fr_sNil (by decide +kernel))))) (by decide +kernel))
 (fr_sFrz (by decide +kernel) (fr_sRet (fr_eV (by decide +kernel)) (by decide +kernel)))))
theorem gp__law_between : GP1 m__law_between := gp_m (n := 4) (np := 2) (f := sem__law_between)
 (fr_sSeq (fr_sFor (fr_iRan2 (fr_aCons fr_eC (fr_aCons fr_eC fr_aNil))) (by decide +kernel) fr_bName (fr_sSeq (fr_sSet (fr_eBin gp_add (fr_eBin gp_div (fr_eBin gp_mul (fr_eBin gp_ix (fr_eV (by decide +kernel)) fr_eC) (fr_eV (by decide +kernel))) (fr_eBin gp_ix (fr_eV (by decide +kernel)) fr_eC)) fr_eC) (by decide +kernel))
 (fr_sIf (fr_tVal (fr_eBin gp_I (fr_eBin gp_mul (fr_eV (by decide +kernel)) (fr_eBin gp_ix (fr_eV (by decide +kernel)) fr_eC)) (fr_eBin gp_mul (fr_eBin gp_ix (fr_eV (by decide +kernel)) fr_eC) (fr_eV (by decide +kernel))))) (by decide +kernel) (fr_sRet (fr_eTup (fr_aCons (fr_eV (by decide +kernel)) (fr_aCons (fr_eV (by decide +kernel)) fr_aNil))) (by decide +kernel)) (by decide +kernel) fr_sNil (by decide +kernel))) (by decide +kernel))
 (fr_sRet fr_eC (by decide +kernel)))
theorem gp__law_way : GP1 m__law_way := gp_m (n := 5) (np := 1) (f := sem__law_way)
 (fr_sSeq (fr_sTup (fr_vOf (fr_aCons (fr_eTup (fr_aCons fr_eC (fr_aCons fr_eC fr_aNil))) (fr_aCons (fr_eTup (fr_aCons fr_eC (fr_aCons fr_eC fr_aNil))) fr_aNil))) (by decide +kernel))
 (fr_sSeq (fr_sFor (fr_iStrS (fr_eV (by decide +kernel))) (by decide +kernel) fr_bName (fr_sSeq (fr_sSet (fr_eTup (fr_aCons (fr_eBin gp_add (fr_eBin gp_ix (fr_eV (by decide +kernel)) fr_eC) (fr_eBin gp_ix (fr_eV (by decide +kernel)) fr_eC)) (fr_aCons (fr_eBin gp_add (fr_eBin gp_ix (fr_eV (by decide +kernel)) fr_eC) (fr_eBin gp_ix (fr_eV (by decide +kernel)) fr_eC)) fr_aNil))) (by decide +kernel))
 (fr_sIf (fr_tVal (fr_eBin gp_eq (fr_eV (by decide +kernel)) fr_eC)) (by decide +kernel) (fr_sSet (fr_eV (by decide +kernel)) (by decide +kernel)) (by decide +kernel) (fr_sSet (fr_eV (by decide +kernel)) (by decide +kernel)) (by decide +kernel))) (by decide +kernel))
 (fr_sRet (fr_eTup (fr_aCons (fr_eBin gp_add (fr_eBin gp_ix (fr_eV (by decide +kernel)) fr_eC) (fr_eBin gp_ix (fr_eV (by decide +kernel)) fr_eC)) (fr_aCons (fr_eBin gp_add (fr_eBin gp_ix (fr_eV (by decide +kernel)) fr_eC) (fr_eBin gp_ix (fr_eV (by decide +kernel)) fr_eC)) fr_aNil))) (by decide +kernel))))
theorem gp__law_root : GP1 m__law_root := gp_m (n := 4) (np := 1) (f := sem__law_root)
 (fr_sSeq (fr_sTup (fr_vOf (fr_aCons fr_eC (fr_aCons fr_eC fr_aNil))) (by decide +kernel))
 (fr_sSeq (fr_sWhile (by decide +kernel) (fr_tVal (fr_eBin gp_I (fr_eBin gp_mul (fr_eV (by decide +kernel)) (fr_eV (by decide +kernel))) (fr_eV (by decide +kernel)))) (show FrS _ _ _ (sSet 2 (eBin opMul (eV 2) (eC (.int 2)))) from (fr_sSet (fr_eBin gp_mul (fr_eV (by decide +kernel)) fr_eC) (by decide +kernel))) (by decide +kernel))
 (fr_sSeq (fr_sWhile (by decide +kernel) (fr_tVal (fr_eBin gp_I (fr_eBin gp_sub (fr_eV (by decide +kernel)) (fr_eV (by decide +kernel))) fr_eC)) (fr_sSeq (fr_sSet (fr_eBin gp_div (fr_eBin gp_add (fr_eV (by decide +kernel)) (fr_eV (by decide +kernel))) fr_eC) (by decide +kernel))
 (fr_sIf (fr_tVal (fr_eBin gp_I (fr_eBin gp_mul (fr_eV (by decide +kernel)) (fr_eV (by decide +kernel))) (fr_eV (by decide +kernel)))) (by decide +kernel) (fr_sSet (fr_eV (by decide +kernel)) (by decide +kernel)) (by decide +kernel) (fr_sSet (fr_eV (by decide +kernel)) (by decide +kernel)) (by decide +kernel))) (by decide +kernel))
 (fr_sRet (fr_eV (by decide +kernel)) (by decide +kernel)))))
theorem gp_is_three : GP1 m_is_three := gp_m (n := 5) (np := 1) (f := sem_is_three)
 (fr_sSeq (fr_sIf (fr_tOrF (fr_tNotF (fr_tTru (fr_eIsi (fr_eV (by decide +kernel))))) (fr_tOrF (fr_tVal (fr_eBin gp_ne (fr_eCall gp_len (fr_aCons (fr_eV (by decide +kernel)) fr_aNil)) fr_eC)) (fr_tNotF (fr_tTru (fr_eCall gp_all (fr_aCons (fr_eOf (fr_oComp (fr_iSeq (fr_eV (by decide +kernel))) fr_bName fr_tYesF (fr_eCall gp_is_whole (fr_aCons (fr_eV (by decide +kernel)) (fr_aCons fr_eC (fr_aCons (fr_eBin gp_pow fr_eC fr_eC) fr_aNil)))))) fr_aNil)))))) (by decide +kernel) (fr_sRet fr_eC (by decide +kernel)) (by decide +kernel) fr_sNil (by decide +kernel))
 (fr_sSeq (fr_sAsg (fr_eV (by decide +kernel)) (by decide +kernel) (fr_bTup (fr_bCons fr_bName (fr_bCons fr_bName (fr_bCons fr_bName fr_bNil)))))
 (fr_sRet (fr_eAnd (fr_eChain (fr_eV (by decide +kernel)) (fr_eV (by decide +kernel)) (fr_eV (by decide +kernel))) (fr_eBin gp_eq (fr_eBin gp_add (fr_eBin gp_add (fr_eBin gp_mul (fr_eV (by decide +kernel)) (fr_eV (by decide +kernel))) (fr_eBin gp_mul (fr_eV (by decide +kernel)) (fr_eV (by decide +kernel)))) (fr_eBin gp_mul (fr_eV (by decide +kernel)) (fr_eV (by decide +kernel)))) (fr_eBin gp_mul (fr_eBin gp_mul (fr_eBin gp_mul fr_eC (fr_eV (by decide +kernel))) (fr_eV (by decide +kernel))) (fr_eV (by decide +kernel))))) (by decide +kernel))))
theorem gp_threes : GP1 m_threes := gp_m (n := 4) (np := 1) (f := sem_threes)
 (fr_sSeq (fr_sTup (fr_vOwnS (fr_oLst (fr_aCons (fr_eTup (fr_aCons fr_eC (fr_aCons fr_eC (fr_aCons fr_eC fr_aNil)))) fr_aNil)) fr_aNil) (by decide +kernel))
 (fr_sSeq (fr_sWhile (by decide +kernel) (fr_tVal (fr_eNeO (by decide +kernel) (fr_eLst fr_aNil))) (fr_sSeq (fr_sPop (by decide +kernel) fr_bName)
 (fr_sIf (fr_tAndF (fr_tVal (fr_eInS (fr_eV (by decide +kernel)) (by decide +kernel))) (fr_tVal (fr_eBin gp_I (fr_eBin gp_ix (fr_eV (by decide +kernel)) fr_eC) (fr_eV (by decide +kernel))))) (by decide +kernel) (fr_sSeq (fr_sPutS (by decide +kernel) (fr_eV (by decide +kernel)) fr_eC (by decide +kernel))
 (fr_sExt (by decide +kernel) (fr_eCall gp_beside (fr_aCons (fr_eV (by decide +kernel)) fr_aNil)) (by decide +kernel))) (by decide +kernel) fr_sNil (by decide +kernel))) (by decide +kernel))
 (fr_sRet (fr_eSortS (by decide +kernel)) (by decide +kernel))))
theorem gp__law_threes : GP1 m__law_threes := gp_m (n := 7) (np := 1) (f := sem__law_threes)
 (fr_sSeq (fr_sSetO (fr_oLst fr_aNil) (by decide +kernel))
 (fr_sSeq (fr_sFor (fr_iRan2 (fr_aCons fr_eC (fr_aCons (fr_eBin gp_add (fr_eV (by decide +kernel)) fr_eC) fr_aNil))) (by decide +kernel) fr_bName (show FrS _ _ _ (sFor (iRan2 (aCons (eV 2) (aCons (eBin opAdd (eV 0) (eC (.int 1))) aNil))) (bName 3)  B__law_threes_3) from (fr_sFor (fr_iRan2 (fr_aCons (fr_eV (by decide +kernel)) (fr_aCons (fr_eBin gp_add (fr_eV (by decide +kernel)) fr_eC) fr_aNil))) (by decide +kernel) fr_bName (fr_sSeq (fr_sSet (fr_eBin gp_sub (fr_eBin gp_mul (fr_eBin gp_mul (fr_eBin gp_mul (fr_eBin gp_mul fr_eC (fr_eV (by decide +kernel))) (fr_eV (by decide +kernel))) (fr_eV (by decide +kernel))) (fr_eV (by decide +kernel))) (fr_eBin gp_mul fr_eC (fr_eBin gp_add (fr_eBin gp_mul (fr_eV (by decide +kernel)) (fr_eV (by decide +kernel))) (fr_eBin gp_mul (fr_eV (by decide +kernel)) (fr_eV (by decide +kernel)))))) (by decide +kernel))
 (fr_sSeq (fr_sSet (fr_eCall gp__law_root (fr_aCons (fr_eV (by decide +kernel)) fr_aNil)) (by decide +kernel))
 (fr_sIf (fr_tVal (fr_eBin gp_eq (fr_eBin gp_mul (fr_eV (by decide +kernel)) (fr_eV (by decide +kernel))) (fr_eV (by decide +kernel)))) (by decide +kernel) (fr_sFor (fr_iSeq (fr_eTup (fr_aCons (fr_eBin gp_div (fr_eBin gp_sub (fr_eBin gp_mul (fr_eBin gp_mul fr_eC (fr_eV (by decide +kernel))) (fr_eV (by decide +kernel))) (fr_eV (by decide +kernel))) fr_eC) (fr_aCons (fr_eBin gp_div (fr_eBin gp_add (fr_eBin gp_mul (fr_eBin gp_mul fr_eC (fr_eV (by decide +kernel))) (fr_eV (by decide +kernel))) (fr_eV (by decide +kernel))) fr_eC) fr_aNil)))) (by decide +kernel) fr_bName (show FrS _ _ _ (sIf (tAndF (tVal (eChain (fun i j => decide (i ≤ j)) (fun i j => decide (i ≤ j)) (eV 3) (eV 6) (eV 0))) (tAndF (tVal (eBin opEq (eBin opAdd (eBin opAdd (eBin opMul (eV 2) (eV 2)) (eBin opMul (eV 3) (eV 3))) (eBin opMul (eV 6) (eV 6))) (eBin opMul (eBin opMul (eBin opMul (eC (.int 3)) (eV 2)) (eV 3)) (eV 6)))) (tVal (eInO true (eTup (aCons (eV 2) (aCons (eV 3) (aCons (eV 6) aNil)))) 1))))  S__law_threes_9  sNil) from (fr_sIf (fr_tAndF (fr_tVal (fr_eChain (fr_eV (by decide +kernel)) (fr_eV (by decide +kernel)) (fr_eV (by decide +kernel)))) (fr_tAndF (fr_tVal (fr_eBin gp_eq (fr_eBin gp_add (fr_eBin gp_add (fr_eBin gp_mul (fr_eV (by decide +kernel)) (fr_eV (by decide +kernel))) (fr_eBin gp_mul (fr_eV (by decide +kernel)) (fr_eV (by decide +kernel)))) (fr_eBin gp_mul (fr_eV (by decide +kernel)) (fr_eV (by decide +kernel)))) (fr_eBin gp_mul (fr_eBin gp_mul (fr_eBin gp_mul fr_eC (fr_eV (by decide +kernel))) (fr_eV (by decide +kernel))) (fr_eV (by decide +kernel))))) (fr_tVal (fr_eInO (fr_eTup (fr_aCons (fr_eV (by decide +kernel)) (fr_aCons (fr_eV (by decide +kernel)) (fr_aCons (fr_eV (by decide +kernel)) fr_aNil)))) (by decide +kernel))))) (by decide +kernel) (fr_sApp (by decide +kernel) (fr_eTup (fr_aCons (fr_eV (by decide +kernel)) (fr_aCons (fr_eV (by decide +kernel)) (fr_aCons (fr_eV (by decide +kernel)) fr_aNil)))) (by decide +kernel)) (by decide +kernel) fr_sNil (by decide +kernel))) (by decide +kernel)) (by decide +kernel) fr_sNil (by decide +kernel)))) (by decide +kernel))) (by decide +kernel))
 (fr_sFrz (by decide +kernel) (fr_sRet (fr_eCall gp_sortA (fr_aCons (fr_eV (by decide +kernel)) fr_aNil)) (by decide +kernel)))))
theorem gp_way_down : GP1 m_way_down := gp_m (n := 5) (np := 1) (f := sem_way_down)
 (fr_sSeq (fr_sIf (fr_tNotF (fr_tTru (fr_eCall gp_is_three (fr_aCons (fr_eV (by decide +kernel)) fr_aNil)))) (by decide +kernel) (fr_sRaise fr_eC (by decide +kernel)) (by decide +kernel) fr_sNil (by decide +kernel))
 (fr_sSeq (fr_sSetO (fr_oLst (fr_aCons (fr_eV (by decide +kernel)) fr_aNil)) (by decide +kernel))
 (fr_sSeq (fr_sWhile (by decide +kernel) (fr_tVal (fr_eBin gp_ne (fr_eIxA (by decide +kernel) (fr_eNeg fr_eC)) (fr_eTup (fr_aCons fr_eC (fr_aCons fr_eC (fr_aCons fr_eC fr_aNil)))))) (fr_sSeq (fr_sAsg (fr_eIxA (by decide +kernel) (fr_eNeg fr_eC)) (by decide +kernel) (fr_bTup (fr_bCons fr_bName (fr_bCons fr_bName (fr_bCons fr_bName fr_bNil)))))
 (fr_sApp (by decide +kernel) (fr_eCall gp_tuple (fr_aCons (fr_eCall gp_sortA (fr_aCons (fr_eTup (fr_aCons (fr_eV (by decide +kernel)) (fr_aCons (fr_eV (by decide +kernel)) (fr_aCons (fr_eBin gp_sub (fr_eBin gp_mul (fr_eBin gp_mul fr_eC (fr_eV (by decide +kernel))) (fr_eV (by decide +kernel))) (fr_eV (by decide +kernel))) fr_aNil)))) fr_aNil)) fr_aNil)) (by decide +kernel))) (by decide +kernel))
 (fr_sFrz (by decide +kernel) (fr_sRet (fr_eCall gp_tuple (fr_aCons (fr_eV (by decide +kernel)) fr_aNil)) (by decide +kernel))))))
end K46
namespace DL
open PySem
open PySem.Spec
open PyProof.Rows
open L2
def irg (lo : Int) (n : Nat) : List Int := (List.range n).map fun (i : Nat) => lo + (i : Int)
theorem irg_len {lo : Int} {n : Nat} : (irg lo n).length = n := by unfold irg; simp
theorem upTo_irg {lo : Int} {n : Nat} : upTo lo n = (irg lo n).map .int := by
  unfold DL.upTo irg
  rw [List.map_map]
  rfl
theorem irg_get {lo : Int} {n i : Nat} (h : i < n) : (irg lo n)[i]? = some (lo + (i : Int)) := by
  unfold irg
  rw [List.getElem?_map, List.getElem?_range h]
  rfl
theorem mem_irg {lo : Int} {n : Nat} {x : Int} : x ∈ irg lo n ↔ lo ≤ x ∧ x < lo + n := by
  unfold irg
  rw [List.mem_map]
  constructor
  · rintro ⟨i, hi, rfl⟩
    rw [List.mem_range] at hi
    omega
  · rintro ⟨h1, h2⟩
    exact ⟨(x - lo).toNat, List.mem_range.mpr (by omega), by omega⟩
theorem comp_irg {vs : List Nat} {fi : LF} {b : BF} {ft : TF} {fe : EF} {ρ : RS} {g : G} {lo : Int} {n : Nat} (t : Int → Bool) (v : Int → D) (hi : fi ρ g = .ok (upTo lo n) g) (hl : n ≤ 1000000)
    (h : ∀ x : Int, lo ≤ x → x < lo + n → ∃ ρ1, b (.int x) (wipeR ρ vs) = some ρ1 ∧ ft ρ1 g = .ok (t x) g ∧ (t x = true → fe ρ1 g = .ok (v x) g ∧ noTok [v x] = true)) :
    oComp vs fi b ft fe ρ g = .ok (((irg lo n).filter t).map v) g := by
  obtain ⟨ds, g', ⟨rfl, e⟩, q⟩ := oComp_run (vs := vs) (b := b) (ft := ft) (fe := fe) (fun i acc g' => g' = g ∧ acc = (((irg lo n).take i).filter t).map v) hi (by rw [upTo_len]; exact hl) ⟨rfl, rfl⟩ (fun i hx acc g' ⟨e1, e2⟩ => by
    subst e1 e2
    have hn : i < n := by rw [upTo_len] at hx; exact hx
    have hg : (upTo lo n)[i] = .int (lo + (i : Int)) := by
      have h1 : (upTo lo n)[i]? = some (.int (lo + (i : Int))) := by rw [upTo_irg, List.getElem?_map, irg_get hn]; rfl
      rw [List.getElem?_eq_getElem hx] at h1
      exact Option.some.inj h1
    obtain ⟨ρ1, h1, h2, h3⟩ := h (lo + (i : Int)) (by omega) (by omega)
    rw [hg]
    refine ⟨ρ1, g', h1, ?_⟩
    have ht : (irg lo n).take (i + 1) = (irg lo n).take i ++ [lo + (i : Int)] := by rw [List.take_add_one, irg_get hn]; rfl
    cases k : t (lo + (i : Int)) with
    | false =>
      rw [k] at h2
      refine .inl ⟨h2, rfl, ?_⟩
      rw [ht, List.filter_append, List.filter_cons_of_neg (by rw [k]; decide), List.filter_nil, List.append_nil]
    | true =>
      rw [k] at h2
      obtain ⟨h4, h5⟩ := h3 k
      refine .inr ⟨h2, _, g', h4, h5, rfl, ?_⟩
      rw [ht, List.filter_append, List.filter_cons_of_pos k, List.filter_nil, List.map_append]
      rfl)
  rw [q, e, upTo_len]
  congr 4
  exact List.take_of_length_le (by rw [irg_len]; exact Nat.le_refl _)
theorem comp_all {vs : List Nat} {fi : LF} {b : BF} {fe : EF} {ρ : RS} {g : G} {lo : Int} {n : Nat} (v : Int → D) (hi : fi ρ g = .ok (upTo lo n) g) (hl : n ≤ 1000000)
    (h : ∀ x : Int, lo ≤ x → x < lo + n → ∃ ρ1, b (.int x) (wipeR ρ vs) = some ρ1 ∧ fe ρ1 g = .ok (v x) g ∧ noTok [v x] = true) :
    oComp vs fi b tYesF fe ρ g = .ok ((irg lo n).map v) g := by
  rw [comp_irg (fun _ => true) v hi hl fun x h1 h2 => by
    obtain ⟨ρ1, k1, k2, k3⟩ := h x h1 h2
    exact ⟨ρ1, k1, rfl, fun _ => ⟨k2, k3⟩⟩]
  rw [List.filter_eq_self.mpr fun _ _ => rfl]
theorem bSum_ints {l : List Int} {g : G} : bSum [.list (l.map PyData.int)] g = .ok (.int l.sum) g := by
  show (match asInts (l.map PyData.int) with | some ns => Out.ok (PyData.int ns.sum) g | none => .bad) = _
  rw [asInts_map]
theorem bAny_bools {l : List Bool} {g : G} : bAny [.list (l.map PyData.bool)] g = .ok (.bool (l.any id)) g := by
  show (match asBools (l.map PyData.bool) with | some ns => Out.ok (PyData.bool (ns.any id)) g | none => .bad) = _
  rw [asBools_map]
theorem compF_irg {b : BF} {ft : TF} {fe : EF} {ρ : RS} {g : G} (t : Int → Bool) (v : Int → D) : ∀ (xs : List Int)
    (h : ∀ x ∈ xs, ∃ ρ1, b (.int x) ρ = some ρ1 ∧ ft ρ1 g = .ok (t x) g ∧ (t x = true → fe ρ1 g = .ok (v x) g ∧ noTok [v x] = true)),
    compF b ft fe ρ (xs.map PyData.int) g = .ok ((xs.filter t).map v) g
  | [], _ => rfl
  | x :: xs, h => by
    obtain ⟨ρ1, h1, h2, h3⟩ := h x List.mem_cons_self
    have ih := compF_irg t v xs fun y hy => h y (List.mem_cons_of_mem _ hy)
    rw [List.map_cons]
    cases k : t x with
    | false =>
      rw [k] at h2
      simp only [compF, h1, h2, ih]
      rw [List.filter_cons_of_neg (by rw [k]; decide)]
    | true =>
      rw [k] at h2
      obtain ⟨h4, h5⟩ := h3 k
      simp only [compF, h1, h2, h4, h5, ih, if_true]
      rw [List.filter_cons_of_pos k]
      rfl
theorem compF2_irg {vs1 : List Nat} {b b1 : BF} {fi1 : LF} {ft1 : TF} {fe : EF} {ρ : RS} {g : G} (lo1 : Int → Int) (n1 : Int → Nat) (t : Int → Int → Bool) (v : Int → Int → D) : ∀ (xs : List Int)
    (h : ∀ x ∈ xs, ∃ ρ1, b (.int x) ρ = some ρ1 ∧ fi1 ρ1 g = .ok (DL.upTo (lo1 x) (n1 x)) g ∧ ∀ y ∈ irg (lo1 x) (n1 x), ∃ ρ2, b1 (.int y) (wipeR ρ1 vs1) = some ρ2 ∧ ft1 ρ2 g = .ok (t x y) g ∧ (t x y = true → fe ρ2 g = .ok (v x y) g ∧ noTok [v x y] = true)),
    compF2 vs1 b tYesF fi1 b1 ft1 fe ρ (xs.map PyData.int) g = .ok (xs.flatMap fun x => ((irg (lo1 x) (n1 x)).filter (t x)).map (v x)) g
  | [], _ => rfl
  | x :: xs, h => by
    obtain ⟨ρ1, h1, h2, h3⟩ := h x List.mem_cons_self
    have ih := compF2_irg (vs1 := vs1) (b := b) (b1 := b1) (fi1 := fi1) (ft1 := ft1) (fe := fe) (ρ := ρ) (g := g) lo1 n1 t v xs fun y hy => h y (List.mem_cons_of_mem _ hy)
    rw [List.map_cons]
    have hc := compF_irg (t x) (v x) (irg (lo1 x) (n1 x)) h3
    rw [upTo_irg] at h2
    simp only [compF2, h1, tYesF, h2, hc, bind_ok, ih]
    rw [List.flatMap_cons]
theorem flat_len {f : Int → List D} {k : Nat} : ∀ (xs : List Int), (∀ x ∈ xs, (f x).length ≤ k) → (xs.flatMap f).length ≤ xs.length * k
  | [], _ => Nat.zero_le _
  | x :: xs, h => by
    have ih := flat_len xs fun y hy => h y (List.mem_cons_of_mem _ hy)
    have h1 := h x List.mem_cons_self
    rw [List.flatMap_cons, List.length_append, List.length_cons, Nat.add_mul]
    omega
theorem comp2_irg {vs vs1 : List Nat} {fi : LF} {b b1 : BF} {fi1 : LF} {ft1 : TF} {fe : EF} {ρ : RS} {g : G} {lo : Int} {n : Nat} (lo1 : Int → Int) (n1 : Int → Nat) (t : Int → Int → Bool) (v : Int → Int → D) (hi : fi ρ g = .ok (DL.upTo lo n) g) (k : Nat) (hk : ∀ x, lo ≤ x → x < lo + n → n1 x ≤ k) (hl : n * k ≤ 1000000)
    (h : ∀ x, lo ≤ x → x < lo + n → ∃ ρ1, b (.int x) (wipeR ρ vs) = some ρ1 ∧ fi1 ρ1 g = .ok (DL.upTo (lo1 x) (n1 x)) g ∧ ∀ y, lo1 x ≤ y → y < lo1 x + n1 x → ∃ ρ2, b1 (.int y) (wipeR ρ1 vs1) = some ρ2 ∧ ft1 ρ2 g = .ok (t x y) g ∧ (t x y = true → fe ρ2 g = .ok (v x y) g ∧ noTok [v x y] = true)) :
    oComp2 vs vs1 fi b tYesF fi1 b1 ft1 fe ρ g = .ok ((irg lo n).flatMap fun x => ((irg (lo1 x) (n1 x)).filter (t x)).map (v x)) g := by
  show (fi ρ g).bind _ = _
  rw [hi, upTo_irg]
  show (compF2 vs1 b tYesF fi1 b1 ft1 fe (wipeR ρ vs) ((irg lo n).map PyData.int) g).bind fin2 = _
  rw [compF2_irg lo1 n1 t v (irg lo n) fun x hx => by
    obtain ⟨x1, x2⟩ := mem_irg.mp hx
    obtain ⟨ρ1, h1, h2, h3⟩ := h x x1 x2
    exact ⟨ρ1, h1, h2, fun y hy => h3 y (mem_irg.mp hy).1 (mem_irg.mp hy).2⟩]
  show (if _ then _ else _) = _
  rw [if_pos]
  have := flat_len (f := fun x => ((irg (lo1 x) (n1 x)).filter (t x)).map (v x)) (k := k) (irg lo n) fun x hx => by
    obtain ⟨x1, x2⟩ := mem_irg.mp hx
    rw [List.length_map]
    refine Nat.le_trans (List.length_filter_le _ _) ?_
    rw [irg_len]
    exact hk x x1 x2
  rw [irg_len] at this
  exact Nat.le_trans this hl
theorem atI_irg {f : Int → Int} {n : Nat} {j : Int} (h0 : 0 ≤ j) (h1 : j < n) : atI (((irg 0 n).map f).map PyData.int) j = some (.int (f j)) := by
  rw [atI_n h0, List.getElem?_map, List.getElem?_map, irg_get (by omega)]
  have e : (0 : Int) + ((j.toNat : Nat) : Int) = j := by omega
  rw [e]
  rfl
theorem compF_map {α : Type} (F : α → D) {b : BF} {ft : TF} {fe : EF} {ρ : RS} {g : G} (t : α → Bool) (v : α → D) : ∀ (xs : List α)
    (h : ∀ x ∈ xs, ∃ ρ1, b (F x) ρ = some ρ1 ∧ ft ρ1 g = .ok (t x) g ∧ (t x = true → fe ρ1 g = .ok (v x) g ∧ noTok [v x] = true)),
    compF b ft fe ρ (xs.map F) g = .ok ((xs.filter t).map v) g
  | [], _ => rfl
  | x :: xs, h => by
    obtain ⟨ρ1, h1, h2, h3⟩ := h x List.mem_cons_self
    have ih := compF_map F t v xs fun y hy => h y (List.mem_cons_of_mem _ hy)
    rw [List.map_cons]
    cases k : t x with
    | false =>
      rw [k] at h2
      simp only [compF, h1, h2, ih]
      rw [List.filter_cons_of_neg (by rw [k]; decide)]
    | true =>
      rw [k] at h2
      obtain ⟨h4, h5⟩ := h3 k
      simp only [compF, h1, h2, h4, h5, ih, if_true]
      rw [List.filter_cons_of_pos k]
      rfl
theorem comp_map {α : Type} (F : α → D) {vs : List Nat} {fi : LF} {b : BF} {ft : TF} {fe : EF} {ρ : RS} {g : G} {xs : List α} (t : α → Bool) (v : α → D) (hi : fi ρ g = .ok (xs.map F) g) (hl : xs.length ≤ 1000000)
    (h : ∀ x ∈ xs, ∃ ρ1, b (F x) (wipeR ρ vs) = some ρ1 ∧ ft ρ1 g = .ok (t x) g ∧ (t x = true → fe ρ1 g = .ok (v x) g ∧ noTok [v x] = true)) :
    oComp vs fi b ft fe ρ g = .ok ((xs.filter t).map v) g := by
  show (fi ρ g).bind _ = _
  rw [hi, bind_ok]
  rw [if_pos (by rw [List.length_map]; exact hl)]
  exact compF_map F t v xs h
theorem comp_mapA {α : Type} (F : α → D) {vs : List Nat} {fi : LF} {b : BF} {fe : EF} {ρ : RS} {g : G} {xs : List α} (v : α → D) (hi : fi ρ g = .ok (xs.map F) g) (hl : xs.length ≤ 1000000)
    (h : ∀ x ∈ xs, ∃ ρ1, b (F x) (wipeR ρ vs) = some ρ1 ∧ fe ρ1 g = .ok (v x) g ∧ noTok [v x] = true) :
    oComp vs fi b tYesF fe ρ g = .ok (xs.map v) g := by
  rw [comp_map F (fun _ => true) v hi hl fun x hx => by
    obtain ⟨ρ1, k1, k2, k3⟩ := h x hx
    exact ⟨ρ1, k1, rfl, fun _ => ⟨k2, k3⟩⟩]
  rw [List.filter_eq_self.mpr fun _ _ => rfl]
theorem for_brk {b : BF} {f : SF} (items : List D) (P : Nat → RS → G → Prop) (Q : RS → G → Prop)
    (h : ∀ i (hi : i < items.length) ρ g, P i ρ g → ∃ ρ1, b items[i] ρ = some ρ1 ∧ ((∃ ρ2 g2, (f ρ1 g = .nx ρ2 g2 ∨ f ρ1 g = .ct ρ2 g2) ∧ P (i + 1) ρ2 g2) ∨ ∃ ρ2 g2, f ρ1 g = .bk ρ2 g2 ∧ Q ρ2 g2)) (hend : ∀ ρ g, P items.length ρ g → Q ρ g) :
    ∀ ρ g, P 0 ρ g → ∃ ρ' g', Q ρ' g' ∧ forL b f items ρ g = .nx ρ' g' := by
  have go : ∀ (k : Nat) (xs : List D) (i : Nat), items.drop i = xs → xs.length = k → i ≤ items.length → ∀ ρ g, P i ρ g → ∃ ρ' g', Q ρ' g' ∧ forL b f xs ρ g = .nx ρ' g' := by
    intro k
    induction k with
    | zero =>
      intro xs i e hl hi ρ g p
      have : xs = [] := List.length_eq_zero_iff.mp hl
      subst this
      have : i = items.length := by
        have := congrArg List.length e
        rw [List.length_drop] at this
        simp at this
        omega
      subst this
      exact ⟨ρ, g, hend ρ g p, rfl⟩
    | succ k ih =>
      intro xs i e hl hi ρ g p
      have hlt : i < items.length := by
        have := congrArg List.length e
        rw [List.length_drop] at this
        omega
      rw [List.drop_eq_getElem_cons hlt] at e
      subst e
      obtain ⟨ρ1, h1, h2⟩ := h i hlt ρ g p
      rcases h2 with ⟨ρ2, g2, h2, h3⟩ | ⟨ρ2, g2, h2, h3⟩
      · obtain ⟨ρ', g', h4, h5⟩ := ih (items.drop (i + 1)) (i + 1) rfl (by rw [List.length_cons] at hl; omega) (by omega) ρ2 g2 h3
        refine ⟨ρ', g', h4, ?_⟩
        unfold forL
        rw [h1]
        rcases h2 with h2 | h2
        · simp only [h2]; exact h5
        · simp only [h2]; exact h5
      · refine ⟨ρ2, g2, h3, ?_⟩
        unfold forL
        rw [h1]
        simp only [h2]
  intro ρ g p
  exact go items.length items 0 rfl rfl (Nat.zero_le _) ρ g p
theorem sFor_brk {fi : LF} {b : BF} {f : SF} {items : List D} {ρ : RS} {g g1 : G} (P : Nat → RS → G → Prop) (Q : RS → G → Prop) (hi : fi ρ g = .ok items g1) (p : P 0 ρ g1)
    (h : ∀ i (hi : i < items.length) ρ g, P i ρ g → ∃ ρ1, b items[i] ρ = some ρ1 ∧ ((∃ ρ2 g2, (f ρ1 g = .nx ρ2 g2 ∨ f ρ1 g = .ct ρ2 g2) ∧ P (i + 1) ρ2 g2) ∨ ∃ ρ2 g2, f ρ1 g = .bk ρ2 g2 ∧ Q ρ2 g2)) (hend : ∀ ρ g, P items.length ρ g → Q ρ g) :
    ∃ ρ' g', Q ρ' g' ∧ sFor fi b f ρ g = .nx ρ' g' := by
  obtain ⟨ρ', g', h1, h2⟩ := for_brk items P Q h hend ρ g1 p
  refine ⟨ρ', g', h1, ?_⟩
  unfold sFor
  rw [hi]
  exact h2
def bd (n : Nat) (x : Int) : Prop := x.natAbs < 2 ^ n
theorem bd.mono {n m : Nat} {x : Int} (h : bd n x) (hm : n ≤ m) : bd m x := Nat.lt_of_lt_of_le h (Nat.pow_le_pow_right (by decide) hm)
theorem bd.mul {n m : Nat} {x y : Int} (h : bd n x) (k : bd m y) : bd (n + m) (x * y) := by
  unfold bd at *
  rw [Int.natAbs_mul, Nat.pow_add]
  exact Nat.mul_lt_mul'' h k
theorem bd.add {n : Nat} {x y : Int} (h : bd n x) (k : bd n y) : bd (n + 1) (x + y) := by
  unfold bd at *
  rw [Nat.pow_succ]
  omega
theorem bd.sub {n : Nat} {x y : Int} (h : bd n x) (k : bd n y) : bd (n + 1) (x - y) := by
  unfold bd at *
  rw [Nat.pow_succ]
  omega
theorem bd.neg {n : Nat} {x : Int} (h : bd n x) : bd n (-x) := by
  unfold bd at *
  rw [Int.natAbs_neg]
  exact h
theorem bd.le {n : Nat} {x y : Int} (h : bd n x) (k : y.natAbs ≤ x.natAbs) : bd n y := Nat.lt_of_le_of_lt k h
theorem bd.log {n : Nat} {x : Int} (h : bd n x) (hn : 0 < n) : x.natAbs.log2 < n := by
  by_cases hz : x.natAbs = 0
  · rw [hz]; exact hn
  · exact (Nat.log2_lt hz).mpr h
theorem opMul_bd {i j : Int} {g : G} {n m : Nat} (h1 : bd n i) (h2 : bd m j) (hn : n + m ≤ 100000) : opMul (.int i) (.int j) g = .ok (.int (i * j)) g := by
  refine opMul_ok (.inr (.inr ?_))
  have := (h1.mono (Nat.le_succ n)).log (Nat.succ_pos n)
  have := (h2.mono (Nat.le_succ m)).log (Nat.succ_pos m)
  omega
theorem opDiv_bd {i j : Int} {g : G} {n : Nat} (h0 : 0 < j) (h1 : bd n j) (hn : n < 9000) : opDiv (.int i) (.int j) g = .ok (.int (i / j)) g := by
  have := (h1.mono (Nat.le_succ n)).log (Nat.succ_pos n)
  show (if _ then _ else _) = _
  rw [if_pos (.inr ⟨h0, by omega⟩), Int.fdiv_eq_ediv_of_nonneg i (by omega)]
theorem gcd_step {a b : Int} : Int.gcd b (a % b) = Int.gcd a b := by
  rw [Int.emod_def, Int.gcd_comm a b]
  exact Int.gcd_sub_mul_left_right ..
def euc (m : Nat) (c d : Int) : Prop := 0 ≤ c ∧ 0 ≤ d ∧ (d = 0 ∨ (c.natAbs * d.natAbs < 2 ^ m ∧ (d < c ∨ 2 * (c.natAbs * d.natAbs + 1) ≤ 2 ^ m)))
theorem euc_step {m : Nat} {c d : Int} (h : euc m c d) (hd : d ≠ 0) : 0 < m ∧ euc (m - 1) d (c % d) := by
  obtain ⟨h1, h2, h3⟩ := h
  have hd0 : 0 < d := by omega
  have r0 : 0 ≤ c % d := Int.emod_nonneg _ hd
  have r1 : c % d < d := Int.emod_lt_of_pos _ hd0
  have h3 := h3.resolve_left hd
  obtain ⟨C, rfl⟩ : ∃ C : Nat, c = C := ⟨c.toNat, by omega⟩
  obtain ⟨E, rfl⟩ : ∃ E : Nat, d = E := ⟨d.toNat, by omega⟩
  obtain ⟨R, hR⟩ : ∃ R : Nat, (C : Int) % E = R := ⟨((C : Int) % E).toNat, by omega⟩
  rw [hR] at r0 r1 ⊢
  have hq : ∃ q : Nat, C = E * q + R := ⟨C / E, by
    have : ((C % E : Nat) : Int) = R := by rw [← hR]; rfl
    have : C % E = R := by omega
    rw [← this]
    exact (Nat.div_add_mod C E).symm⟩
  obtain ⟨q, hq⟩ := hq
  simp only [Int.natAbs_natCast] at h3 ⊢
  have hRE : R < E := by omega
  have key : 2 * (E * R) < 2 ^ m := by
    rcases h3 with ⟨h4, h5 | h5⟩
    · have hqp : 0 < q := by
        rcases Nat.eq_zero_or_pos q with z | z
        · subst z; omega
        · exact z
      have hEC : E + R ≤ C := by
        have : E * 1 ≤ E * q := Nat.mul_le_mul_left E hqp
        omega
      have h6 : 2 * R ≤ C := by omega
      have : E * (2 * R) ≤ E * C := Nat.mul_le_mul_left E h6
      rw [Nat.mul_comm C E] at h4
      have e : E * (2 * R) = 2 * (E * R) := by rw [Nat.mul_left_comm]
      omega
    · have : E * R ≤ E * C := Nat.mul_le_mul_left E (by
        have : 0 ≤ E * q := Nat.zero_le _
        omega)
      rw [Nat.mul_comm C E] at h5
      omega
  cases m with
  | zero =>
    exfalso
    rcases h3 with ⟨h4, h5 | h5⟩
    · have : 0 < C * E := Nat.mul_pos (by omega) (by omega)
      omega
    · omega
  | succ m =>
    rw [Nat.pow_succ] at key
    refine ⟨Nat.succ_pos m, by omega, by omega, .inr ⟨?_, .inl (by omega)⟩⟩
    simp only [Int.natAbs_natCast, Nat.add_sub_cancel]
    omega
theorem euc_of {a b : Int} {n m : Nat} (ha : 0 ≤ a) (hb : 0 ≤ b) (h1 : bd n a) (h2 : bd m b) : euc (n + m + 1) a b := by
  refine ⟨ha, hb, .inr ?_⟩
  have := h1.mul h2
  unfold bd at this
  rw [Int.natAbs_mul] at this
  rw [Nat.pow_succ]
  omega
def rp (q : Rat) : Int × Int := (q.num, (q.den : Int))
theorem rp_inj {p q : Rat} (h : rp p = rp q) : p = q := by
  unfold rp at h
  rw [Prod.mk.injEq] at h
  exact Rat.ext h.1 (by omega)
theorem rp_divInt {n d : Int} (hd : 0 < d) : rp (Rat.divInt n d) = (n / (Int.gcd n d : Int), d / (Int.gcd n d : Int)) := by
  have hn := Rat.num_divInt n d
  have hq := Rat.den_divInt n d
  rw [if_neg (by omega)] at hq
  unfold rp
  rw [hn, hq, Int.gcd_comm d n, Int.sign_eq_one_of_pos hd, Int.one_mul]
  congr 1
  rw [Int.natCast_ediv, Int.natAbs_of_nonneg (by omega)]
theorem rp_den_pos {q : Rat} : 0 < (rp q).2 := by
  have := q.den_pos
  show 0 < (q.den : Int)
  omega
theorem rp_self {q : Rat} : Rat.divInt (rp q).1 (rp q).2 = q := Rat.num_divInt_den q
theorem rp_add {p q : Rat} : Rat.divInt ((rp p).1 * (rp q).2 + (rp q).1 * (rp p).2) ((rp p).2 * (rp q).2) = p + q := by
  have h1 := p.den_nz
  have h2 := q.den_nz
  have := Rat.divInt_add_divInt p.num q.num (d₁ := p.den) (d₂ := q.den) (by omega) (by omega)
  rw [Rat.num_divInt_den, Rat.num_divInt_den] at this
  exact this.symm
mutual
def eqD : D → D → Bool
  | .int a, .int b => decide (a = b)
  | .bool a, .bool b => a == b
  | .none, .none => true
  | .str a, .str b => decide (a = b)
  | .tuple xs, .tuple ys => eqDs xs ys
  | .list xs, .list ys => eqDs xs ys
  | _, _ => false
def eqDs : List D → List D → Bool
  | [], [] => true
  | x :: xs, y :: ys => eqD x y && eqDs xs ys
  | _, _ => false
end
mutual
theorem eqD_of : ∀ (a b : D), eqD a b = true → a = b
  | .int a, .int b, h => by rw [eqD, decide_eq_true_eq] at h; rw [h]
  | .bool a, .bool b, h => by rw [eqD, beq_iff_eq] at h; rw [h]
  | .none, .none, _ => rfl
  | .str a, .str b, h => by rw [eqD, decide_eq_true_eq] at h; rw [h]
  | .tuple xs, .tuple ys, h => by rw [eqD] at h; rw [eqDs_of xs ys h]
  | .list xs, .list ys, h => by rw [eqD] at h; rw [eqDs_of xs ys h]
  | .int _, .bool _, h | .int _, .none, h | .int _, .str _, h | .int _, .tuple _, h | .int _, .list _, h => by simp [eqD] at h
  | .bool _, .int _, h | .bool _, .none, h | .bool _, .str _, h | .bool _, .tuple _, h | .bool _, .list _, h => by simp [eqD] at h
  | .none, .int _, h | .none, .bool _, h | .none, .str _, h | .none, .tuple _, h | .none, .list _, h => by simp [eqD] at h
  | .str _, .int _, h | .str _, .bool _, h | .str _, .none, h | .str _, .tuple _, h | .str _, .list _, h => by simp [eqD] at h
  | .tuple _, .int _, h | .tuple _, .bool _, h | .tuple _, .none, h | .tuple _, .str _, h | .tuple _, .list _, h => by simp [eqD] at h
  | .list _, .int _, h | .list _, .bool _, h | .list _, .none, h | .list _, .str _, h | .list _, .tuple _, h => by simp [eqD] at h
  | .int _, .dict _, h | .bool _, .dict _, h | .none, .dict _, h | .str _, .dict _, h | .tuple _, .dict _, h | .list _, .dict _, h => by simp [eqD] at h
  | .dict _, b, h => by simp [eqD] at h
theorem eqDs_of : ∀ (a b : List D), eqDs a b = true → a = b
  | [], [], _ => rfl
  | x :: xs, y :: ys, h => by
    rw [eqDs, Bool.and_eq_true] at h
    rw [eqD_of x y h.1, eqDs_of xs ys h.2]
  | [], _ :: _, h => by simp [eqDs] at h
  | _ :: _, [], h => by simp [eqDs] at h
end
def okD (o : Out D) (d : D) : Bool := match o with
  | .ok x _ => eqD x d
  | _ => false
theorem okD_of {m : List D → G → Out D} (h : GP1 m) {ds : List D} {d : D} {g' : G} (e : okD (m ds g') d = true) (g : G) : m ds g = .ok d g := by
  cases q : m ds g' with
  | ok x g1 =>
    rw [q] at e
    rw [gp_ok h q g, eqD_of x d e]
  | _ => rw [q] at e; cases e
end DL
namespace DL
open PySem
open PySem.Spec
open PyProof.Rows
open L2
theorem le_int (a b : Int) : PySem.W.dataLe (β := D) false id (.int a) (.int b) = decide (a ≤ b) := congrFun (congrFun (PySem.W.dataLe_int (fun b : Int => b)) a) b
theorem le_ii (p q : Int × Int) : PySem.W.dataLe (β := D) false id (dP p) (dP q) = decide (p.1 < q.1 ∨ (p.1 = q.1 ∧ p.2 ≤ q.2)) := congrFun (congrFun (PySem.W.dataLe_ii (fun b : Int × Int => b.1) (fun b => b.2)) p) q
def insI (x : Int) : List Int → List Int
  | [] => [x]
  | y :: r => if x ≤ y then x :: y :: r else y :: insI x r
def sortZ : List Int → List Int
  | [] => []
  | x :: r => insI x (sortZ r)
theorem insD_int {x : Int} : ∀ l : List Int, insD (.int x) (l.map .int) = (insI x l).map .int
  | [] => rfl
  | y :: r => by
    show (if PySem.W.dataLe false id (.int x) (.int y) = true then _ else _) = _
    rw [le_int, insD_int r, show insI x (y :: r) = if x ≤ y then x :: y :: r else y :: insI x r from rfl]
    by_cases h : x ≤ y
    · rw [if_pos (decide_eq_true h), if_pos h]
      rfl
    · rw [if_neg (by rw [decide_eq_false h]; decide), if_neg h]
      rfl
theorem sortD_int : ∀ l : List Int, sortD (l.map .int) = (sortZ l).map .int
  | [] => rfl
  | x :: r => by
    show insD (.int x) (sortD (r.map .int)) = _
    rw [sortD_int r, insD_int]
    rfl
theorem insI_mem {x z : Int} : ∀ l : List Int, z ∈ insI x l ↔ z = x ∨ z ∈ l
  | [] => by simp [insI]
  | y :: r => by
    unfold insI
    split
    · simp
    · simp only [List.mem_cons, insI_mem r]
      grind
theorem sortZ_mem {z : Int} : ∀ l : List Int, z ∈ sortZ l ↔ z ∈ l
  | [] => Iff.rfl
  | x :: r => by
    show z ∈ insI x (sortZ r) ↔ _
    rw [insI_mem, sortZ_mem r, List.mem_cons]
theorem insI_asc {x : Int} : ∀ l : List Int, l.Pairwise (· < ·) → x ∉ l → (insI x l).Pairwise (· < ·)
  | [], _, _ => .cons (fun _ h => nomatch h) .nil
  | y :: r, h, hx => by
    cases h with
    | cons h1 h2 =>
      unfold insI
      rw [List.mem_cons, not_or] at hx
      split
      · refine .cons (fun z hz => ?_) (.cons h1 h2)
        rcases List.mem_cons.mp hz with rfl | hz
        · omega
        · have := h1 z hz
          omega
      · refine .cons (fun z hz => ?_) (insI_asc r h2 hx.2)
        rcases (insI_mem r).mp hz with rfl | hz
        · omega
        · exact h1 z hz
theorem sortZ_asc : ∀ l : List Int, l.Nodup → (sortZ l).Pairwise (· < ·)
  | [], _ => .nil
  | x :: r, h => by
    rw [List.nodup_cons] at h
    exact insI_asc _ (sortZ_asc r h.2) fun hm => h.1 ((sortZ_mem r).mp hm)
theorem asc_uniq : ∀ {l m : List Int}, l.Pairwise (· < ·) → m.Pairwise (· < ·) → (∀ z, z ∈ l ↔ z ∈ m) → l = m
  | [], [], _, _, _ => rfl
  | [], y :: m, _, _, h => absurd ((h y).mpr List.mem_cons_self) (by simp)
  | x :: l, [], _, _, h => absurd ((h x).mp List.mem_cons_self) (by simp)
  | x :: l, y :: m, .cons a1 a2, .cons b1 b2, h => by
    have hxy : x = y := by
      rcases List.mem_cons.mp ((h x).mp List.mem_cons_self) with e | e
      · exact e
      · rcases List.mem_cons.mp ((h y).mpr List.mem_cons_self) with e2 | e2
        · exact e2.symm
        · have := a1 y e2
          have := b1 x e
          omega
    subst hxy
    rw [asc_uniq a2 b2 fun z => ?_]
    have hz := h z
    simp only [List.mem_cons] at hz
    constructor
    · intro k
      rcases hz.mp (.inr k) with rfl | e
      · exact absurd (a1 _ k) (by omega)
      · exact e
    · intro k
      rcases hz.mpr (.inr k) with rfl | e
      · exact absurd (b1 _ k) (by omega)
      · exact e
theorem irg_asc {lo : Int} {n : Nat} : (irg lo n).Pairwise (· < ·) := by
  unfold irg
  rw [List.pairwise_map]
  exact List.Pairwise.imp (fun h => by omega) List.pairwise_lt_range
theorem sortD_asc : ∀ l : List (Int × Int), (l.Pairwise fun x y => x.1 < y.1) → sortD (l.map dP) = l.map dP
  | [], _ => rfl
  | [x], _ => rfl
  | x :: y :: r, .cons h1 h2 => by
    show insD (dP x) (sortD ((y :: r).map dP)) = _
    rw [sortD_asc (y :: r) h2]
    show (if PySem.W.dataLe false id (dP x) (dP y) = true then _ else _) = _
    rw [le_ii, if_pos (decide_eq_true (.inl (h1 y List.mem_cons_self)))]
    rfl
theorem sortOk_int : ∀ l : List Int, sortOk (l.map .int) = true := by
  intro l
  unfold sortOk
  rw [Bool.or_eq_true, Bool.or_eq_true]
  refine .inl (.inl ?_)
  rw [List.all_eq_true]
  intro x hx
  obtain ⟨i, _, rfl⟩ := List.mem_map.mp hx
  rfl
theorem bSort_int {l : List Int} {g : G} : bSortA [.list (l.map .int)] g = .ok (.list ((sortZ l).map .int)) g := by
  show (if sortOk (l.map .int) = true then _ else _) = _
  rw [if_pos (sortOk_int l), sortD_int]
theorem last_of {lo : Int} {n : Nat} {t : Int → Bool} {s : Int} (h0 : lo ≤ s) (h1 : s < lo + n) (hs : t s = true) (hm : ∀ x, s < x → x < lo + n → t x = false) : ∃ A, (irg lo n).filter t = A ++ [s] := by
  have e : irg lo n = irg lo (s - lo).toNat ++ s :: irg (s + 1) (lo + n - s - 1).toNat := by
    refine asc_uniq irg_asc ?_ fun z => ?_
    · rw [List.pairwise_append]
      refine ⟨irg_asc, .cons (fun z hz => ?_) irg_asc, fun x hx y hy => ?_⟩
      · have := mem_irg.mp hz
        omega
      · have := mem_irg.mp hx
        rcases List.mem_cons.mp hy with rfl | hy
        · omega
        · have := mem_irg.mp hy
          omega
    · rw [List.mem_append, List.mem_cons, mem_irg, mem_irg, mem_irg]
      omega
  refine ⟨(irg lo (s - lo).toNat).filter t, ?_⟩
  rw [e, List.filter_append, List.filter_cons_of_pos hs]
  congr 2
  rw [List.filter_eq_nil_iff]
  intro x hx
  have := mem_irg.mp hx
  rw [hm x (by omega) (by omega)]
  decide
theorem one_of {lo : Int} {n : Nat} {t : Int → Bool} {s : Int} (h0 : lo ≤ s) (h1 : s < lo + n) (hm : ∀ x, lo ≤ x → x < lo + n → (t x = true ↔ x = s)) : (irg lo n).filter t = [s] := by
  refine asc_uniq (irg_asc.filter _) (.cons (fun _ h => nomatch h) .nil) fun z => ?_
  rw [List.mem_filter, mem_irg, List.mem_singleton]
  constructor
  · rintro ⟨⟨a, b⟩, c⟩
    exact (hm z a b).mp c
  · rintro rfl
    exact ⟨⟨h0, h1⟩, (hm z h0 h1).mpr rfl⟩
theorem eqv_int {a b : Int} : PyData.eqv (.int a) (.int b) = decide (a = b) := by
  have h := opEq_int (i := a) (j := b) (g := ((0, []) : G))
  rw [opEq_shp shp_int shp_int] at h
  injection h with h
  injection h
theorem in2t {i a b : Int} {g : G} : opIn false (.int i) (.tuple [.int a, .int b]) g = .ok (.bool (decide (a = i ∨ b = i))) g := by
  show (if flatD (.int i) = true ∧ [PyData.int a, PyData.int b].all flatD = true then Out.ok (PyData.bool ([PyData.int a, PyData.int b].any fun z => PyData.eqv z (.int i))) g else .bad) = _
  rw [if_pos ⟨rfl, rfl⟩]
  congr 2
  simp only [List.any_cons, List.any_nil, eqv_int, Bool.or_false, Bool.decide_or]
theorem in2l {i a b : Int} {g : G} : opIn false (.int i) (.list [.int a, .int b]) g = .ok (.bool (decide (a = i ∨ b = i))) g := by
  show (if shp (.int i) = true ∧ shp (.list [.int a, .int b]) = true then Out.ok (PyData.bool ([PyData.int a, PyData.int b].any fun z => PyData.eqv z (.int i))) g else .bad) = _
  rw [if_pos ⟨rfl, by
    refine (lay_list (k := 0) fun x hx => ?_).shp (by decide)
    rcases List.mem_cons.mp hx with rfl | hx
    · exact lay_int
    · rw [List.mem_singleton] at hx
      subst hx
      exact lay_int⟩]
  congr 2
  simp only [List.any_cons, List.any_nil, eqv_int, Bool.or_false, Bool.decide_or]
theorem compF2_map {α β : Type} (F : α → D) (F1 : β → D) {vs1 : List Nat} {b b1 : BF} {fi1 : LF} {ft1 : TF} {fe : EF} {ρ : RS} {g : G} (ys : α → List β) (t : α → β → Bool) (v : α → β → D) : ∀ (xs : List α)
    (h : ∀ x ∈ xs, ∃ ρ1, b (F x) ρ = some ρ1 ∧ fi1 ρ1 g = .ok ((ys x).map F1) g ∧ ∀ y ∈ ys x, ∃ ρ2, b1 (F1 y) (wipeR ρ1 vs1) = some ρ2 ∧ ft1 ρ2 g = .ok (t x y) g ∧ (t x y = true → fe ρ2 g = .ok (v x y) g ∧ noTok [v x y] = true)),
    compF2 vs1 b tYesF fi1 b1 ft1 fe ρ (xs.map F) g = .ok (xs.flatMap fun x => ((ys x).filter (t x)).map (v x)) g
  | [], _ => rfl
  | x :: xs, h => by
    obtain ⟨ρ1, h1, h2, h3⟩ := h x List.mem_cons_self
    have ih := compF2_map F F1 (vs1 := vs1) (b := b) (b1 := b1) (fi1 := fi1) (ft1 := ft1) (fe := fe) (ρ := ρ) (g := g) ys t v xs fun y hy => h y (List.mem_cons_of_mem _ hy)
    rw [List.map_cons]
    have hc := compF_map F1 (t x) (v x) (ys x) h3
    simp only [compF2, h1, tYesF, h2, hc, bind_ok, ih]
    rw [List.flatMap_cons]
theorem comp2_map {α β : Type} (F : α → D) (F1 : β → D) {vs vs1 : List Nat} {fi : LF} {b b1 : BF} {fi1 : LF} {ft1 : TF} {fe : EF} {ρ : RS} {g : G} {xs : List α} (ys : α → List β) (t : α → β → Bool) (v : α → β → D) (hi : fi ρ g = .ok (xs.map F) g) (hl : (xs.flatMap fun x => ((ys x).filter (t x)).map (v x)).length ≤ 1000000)
    (h : ∀ x ∈ xs, ∃ ρ1, b (F x) (wipeR ρ vs) = some ρ1 ∧ fi1 ρ1 g = .ok ((ys x).map F1) g ∧ ∀ y ∈ ys x, ∃ ρ2, b1 (F1 y) (wipeR ρ1 vs1) = some ρ2 ∧ ft1 ρ2 g = .ok (t x y) g ∧ (t x y = true → fe ρ2 g = .ok (v x y) g ∧ noTok [v x y] = true)) :
    oComp2 vs vs1 fi b tYesF fi1 b1 ft1 fe ρ g = .ok (xs.flatMap fun x => ((ys x).filter (t x)).map (v x)) g := by
  show (fi ρ g).bind _ = _
  rw [hi]
  show (compF2 vs1 b tYesF fi1 b1 ft1 fe (wipeR ρ vs) (xs.map F) g).bind fin2 = _
  rw [compF2_map F F1 ys t v xs h]
  show (if _ then _ else _) = _
  rw [if_pos]
  exact hl
theorem asc_len : ∀ {l : List Int} {lo : Int} {n : Nat}, l.Pairwise (· < ·) → (∀ x ∈ l, lo ≤ x ∧ x < lo + n) → l.length ≤ n
  | [], _, n, _, _ => Nat.zero_le n
  | x :: l, lo, 0, _, h => by
    have := h x List.mem_cons_self
    omega
  | x :: l, lo, n + 1, .cons h1 h2, h => by
    have hx := h x List.mem_cons_self
    have := asc_len (l := l) (lo := lo + 1) (n := n) h2 fun y hy => by
      have := h y (List.mem_cons_of_mem _ hy)
      have := h1 y hy
      omega
    rw [List.length_cons]
    omega
theorem insI_len {x : Int} : ∀ l : List Int, (insI x l).length = l.length + 1
  | [] => rfl
  | y :: r => by
    rw [show insI x (y :: r) = if x ≤ y then x :: y :: r else y :: insI x r from rfl]
    split
    · rfl
    · rw [List.length_cons, insI_len r, List.length_cons]
theorem sortZ_len : ∀ l : List Int, (sortZ l).length = l.length
  | [] => rfl
  | x :: r => by
    show (insI x (sortZ r)).length = _
    rw [insI_len, sortZ_len r, List.length_cons]
theorem sortOk_dP (l : List (Int × Int)) : sortOk (l.map dP) = true := by
  unfold sortOk
  rw [Bool.or_eq_true, Bool.or_eq_true]
  refine .inl (.inr ?_)
  rw [List.all_eq_true]
  intro x hx
  obtain ⟨p, _, rfl⟩ := List.mem_map.mp hx
  rfl
theorem bSort_dP {l : List (Int × Int)} {g : G} (h : l.Pairwise fun x y => x.1 < y.1) : bSortA [.list (l.map dP)] g = .ok (.list (l.map dP)) g := by
  show (if sortOk (l.map dP) = true then _ else _) = _
  rw [if_pos (sortOk_dP l), sortD_asc l h]
theorem pigeon {c : Nat → Int} {N : Nat} (h : ∀ i, i ≤ N → 0 ≤ c i ∧ c i < N) : ∃ i j, i < j ∧ j ≤ N ∧ c i = c j := by
  by_cases hn : ((List.range (N + 1)).map c).Nodup
  · exfalso
    have h1 := asc_len (lo := 0) (n := N) (sortZ_asc _ hn) fun x hx => by
      rw [sortZ_mem] at hx
      obtain ⟨i, hi, rfl⟩ := List.mem_map.mp hx
      rw [List.mem_range] at hi
      have := h i (by omega)
      omega
    rw [sortZ_len, List.length_map, List.length_range] at h1
    omega
  · have h2 : ¬ ((List.range (N + 1)).Pairwise fun i j => c i ≠ c j) := fun hp => hn (List.pairwise_map.mpr hp)
    by_cases hx : ∃ i j, i < j ∧ j ≤ N ∧ c i = c j
    · exact hx
    · exfalso
      refine h2 (List.Pairwise.imp_of_mem (fun {i j} hi hj hij e => hx ⟨i, j, hij, by rw [List.mem_range] at hj; omega, e⟩) List.pairwise_lt_range)
theorem sSeq_as (f h k : SF) (ρ : RS) (g : G) : sSeq f (sSeq h k) ρ g = sSeq (sSeq f h) k ρ g := by
  rw [sSeq_th f, sSeq_th (sSeq f h), sSeq_th f h]
  cases f ρ g with
  | nx ρ1 g1 => rw [th_nx, th_nx, sSeq_th]
  | _ => rfl
theorem seq_P {f k : SF} {ρ ρ1 : RS} {g g1 : G} {P : SO → Prop} (h : f ρ g = .nx ρ1 g1) (h2 : P (k ρ1 g1)) : P (sSeq f k ρ g) := by
  rw [seq_nx h rfl]
  exact h2
end DL
namespace K46
open PySem
open PySem.Spec
open PyProof.Rows
open L2
open DL
def T46 : List (List Int) := [[1, 1, 1], [1, 1, 2], [1, 2, 5], [1, 5, 13], [1, 13, 34], [1, 34, 89], [1, 89, 233], [1, 233, 610], [1, 610, 1597], [1, 1597, 4181], [1, 4181, 10946], [1, 10946, 28657], [1, 28657, 75025], [2, 5, 29], [2, 29, 169], [2, 169, 985], [2, 985, 5741], [2, 5741, 33461], [5, 13, 194], [5, 29, 433], [5, 194, 2897], [5, 433, 6466], [5, 2897, 43261], [5, 6466, 96557], [13, 34, 1325], [13, 194, 7561], [13, 1325, 51641], [29, 169, 14701], [29, 433, 37666], [34, 89, 9077], [89, 233, 62210]]
def s3 (a b c : Int) : List Int := if a ≤ b then (if b ≤ c then [a, b, c] else if a ≤ c then [a, c, b] else [c, a, b]) else (if a ≤ c then [b, a, c] else if b ≤ c then [b, c, a] else [c, b, a])
def nbr : List Int → List (List Int)
  | [x, y, z] => sortT [s3 y z (3 * y * z - x), s3 x z (3 * x * z - y), s3 x y (3 * x * y - z)]
  | _ => []
def T2 : List (List Int) := T46 ++ T46.flatMap nbr
theorem T46_len : T46.length = 31 := rfl
theorem T2_len : ∀ k ∈ T2, k.length = 3 := by decide +kernel
theorem T2_out : ∀ k ∈ T2, k ∈ T46 ∨ 100000 < k.getD 2 0 := by decide +kernel
theorem T46_sub {k : List Int} (h : k ∈ T46) : k ∈ T2 := List.mem_append_left _ h
theorem nbr_sub {k q : List Int} (h : k ∈ T46) (hq : q ∈ nbr k) : q ∈ T2 := List.mem_append_right _ (List.mem_flatMap.mpr ⟨k, h, hq⟩)
theorem nbr_len : ∀ k ∈ T46, (nbr k).length ≤ 3 := by decide +kernel
def okB (k : List Int) : Bool := okD (m_beside [tDI k] (0, [])) (.list ((nbr k).map tDI))
theorem okB_0 : okB [1, 1, 1] = true := by decide +kernel
theorem okB_1 : okB [1, 1, 2] = true := by decide +kernel
theorem okB_2 : okB [1, 2, 5] = true := by decide +kernel
theorem okB_3 : okB [1, 5, 13] = true := by decide +kernel
theorem okB_4 : okB [1, 13, 34] = true := by decide +kernel
theorem okB_5 : okB [1, 34, 89] = true := by decide +kernel
theorem okB_6 : okB [1, 89, 233] = true := by decide +kernel
theorem okB_7 : okB [1, 233, 610] = true := by decide +kernel
theorem okB_8 : okB [1, 610, 1597] = true := by decide +kernel
theorem okB_9 : okB [1, 1597, 4181] = true := by decide +kernel
theorem okB_10 : okB [1, 4181, 10946] = true := by decide +kernel
theorem okB_11 : okB [1, 10946, 28657] = true := by decide +kernel
theorem okB_12 : okB [1, 28657, 75025] = true := by decide +kernel
theorem okB_13 : okB [2, 5, 29] = true := by decide +kernel
theorem okB_14 : okB [2, 29, 169] = true := by decide +kernel
theorem okB_15 : okB [2, 169, 985] = true := by decide +kernel
theorem okB_16 : okB [2, 985, 5741] = true := by decide +kernel
theorem okB_17 : okB [2, 5741, 33461] = true := by decide +kernel
theorem okB_18 : okB [5, 13, 194] = true := by decide +kernel
theorem okB_19 : okB [5, 29, 433] = true := by decide +kernel
theorem okB_20 : okB [5, 194, 2897] = true := by decide +kernel
theorem okB_21 : okB [5, 433, 6466] = true := by decide +kernel
theorem okB_22 : okB [5, 2897, 43261] = true := by decide +kernel
theorem okB_23 : okB [5, 6466, 96557] = true := by decide +kernel
theorem okB_24 : okB [13, 34, 1325] = true := by decide +kernel
theorem okB_25 : okB [13, 194, 7561] = true := by decide +kernel
theorem okB_26 : okB [13, 1325, 51641] = true := by decide +kernel
theorem okB_27 : okB [29, 169, 14701] = true := by decide +kernel
theorem okB_28 : okB [29, 433, 37666] = true := by decide +kernel
theorem okB_29 : okB [34, 89, 9077] = true := by decide +kernel
theorem okB_30 : okB [89, 233, 62210] = true := by decide +kernel
theorem okB_all : ∀ k ∈ T46, okB k = true := by
  intro k h
  unfold T46 at h
  simp only [List.mem_cons, List.not_mem_nil, or_false] at h
  rcases h with rfl | rfl | rfl | rfl | rfl | rfl | rfl | rfl | rfl | rfl | rfl | rfl | rfl | rfl | rfl | rfl | rfl | rfl | rfl | rfl | rfl | rfl | rfl | rfl | rfl | rfl | rfl | rfl | rfl | rfl | rfl
  · exact okB_0
  · exact okB_1
  · exact okB_2
  · exact okB_3
  · exact okB_4
  · exact okB_5
  · exact okB_6
  · exact okB_7
  · exact okB_8
  · exact okB_9
  · exact okB_10
  · exact okB_11
  · exact okB_12
  · exact okB_13
  · exact okB_14
  · exact okB_15
  · exact okB_16
  · exact okB_17
  · exact okB_18
  · exact okB_19
  · exact okB_20
  · exact okB_21
  · exact okB_22
  · exact okB_23
  · exact okB_24
  · exact okB_25
  · exact okB_26
  · exact okB_27
  · exact okB_28
  · exact okB_29
  · exact okB_30
theorem beside_eq {k : List Int} (hk : k ∈ T46) (g : G) : m_beside [tDI k] g = .ok (.list ((nbr k).map tDI)) g := okD_of gp_beside (okB_all k hk) g
theorem lay_tDI {k : List Int} : lay 1 (tDI k) := lay_tuple fun x hx => by
  obtain ⟨i, _, rfl⟩ := List.mem_map.mp hx
  exact lay_int
theorem lay_ts {l : List (List Int)} : lay 2 (.list (l.map tDI)) := lay_list fun x hx => by
  obtain ⟨i, _, rfl⟩ := List.mem_map.mp hx
  exact lay_tDI
end K46
namespace K46
open PySem
open PySem.Spec
open PyProof.Rows
open L2
open DL
variable {g : G}
theorem eqv_t1 (a b : List Int) : PyData.eqv (tDI a) (tDI b) = decide (a = b) := by
  have h := PySem.W.Datum.eqv (α := PySem.W.Tup Int) ⟨a⟩ ⟨b⟩
  refine Eq.trans (show PyData.eqv (tDI a) (tDI b) = decide ((⟨a⟩ : PySem.W.Tup Int) = ⟨b⟩) from h) (decide_eq_decide.mpr ⟨fun e => congrArg PySem.W.Tup.items e, fun e => by rw [e]⟩)
theorem map_mk {a b : List (List Int)} (h : a.map PySem.W.Tup.mk = b.map PySem.W.Tup.mk) : a = b := by
  have := congrArg (List.map PySem.W.Tup.items) h
  rw [List.map_map, List.map_map] at this
  simpa [Function.comp_def] using this
theorem eqv_ts' (a b : List (List Int)) : PyData.eqv (.list (a.map tDI)) (.list (b.map tDI)) = decide (a = b) := by
  have h := PySem.W.Datum.eqv (α := List (PySem.W.Tup Int)) (a.map PySem.W.Tup.mk) (b.map PySem.W.Tup.mk)
  have e : ∀ l : List (List Int), PySem.W.Datum.toD (l.map PySem.W.Tup.mk) = PyData.list (l.map tDI) := fun l => by
    show PyData.list ((l.map PySem.W.Tup.mk).map PySem.W.Datum.toD) = _
    rw [List.map_map]
    rfl
  rw [e, e] at h
  rw [h]
  exact decide_eq_decide.mpr ⟨map_mk, fun e => by rw [e]⟩
theorem opNe_ts (a b : List (List Int)) : opNe (.list (a.map tDI)) (.list (b.map tDI)) g = .ok (.bool (!decide (a = b))) g := by
  rw [opNe_shp (lay_ts.shp (by decide)) (lay_ts.shp (by decide)), eqv_ts']
theorem opNe_t1 (a b : List Int) : opNe (tDI a) (tDI b) g = .ok (.bool (!decide (a = b))) g := by
  rw [opNe_shp (lay_tDI.shp (by decide)) (lay_tDI.shp (by decide)), eqv_t1]
theorem sortOk_ts (l : List (List Int)) (h : ∀ k ∈ l, k ≠ []) : sortOk (l.map tDI) = true := by
  unfold sortOk
  have : (l.map tDI).all tupI = true := by
    rw [List.all_map, List.all_eq_true]
    intro k hk
    cases k with
    | nil => exact absurd rfl (h _ hk)
    | cons x r =>
      show (asInts ((x :: r).map .int)).isSome = true
      rw [asInts_map]
      rfl
  rw [this, Bool.or_true, Bool.true_or]
abbrev P46 := List (List Int) × List (List Int)
def stT (n : Int) (p : P46) : P46 := match p.2.getLast? with
  | none => p
  | some now => if ¬ now ∈ p.1 ∧ now.getD 2 0 ≤ n then (p.1 ++ [now], p.2.dropLast ++ nbr now) else (p.1, p.2.dropLast)
def itT (n : Int) : Nat → P46 → P46
  | 0, p => p
  | k + 1, p => itT n k (stT n p)
theorem itT_succ (n : Int) : ∀ (k : Nat) (p : P46), itT n (k + 1) p = stT n (itT n k p)
  | 0, _ => rfl
  | k + 1, p => itT_succ n k (stT n p)
theorem stT_end {n : Int} {a : List (List Int)} : stT n (a, []) = (a, []) := rfl
theorem itT_end {n : Int} {a : List (List Int)} : ∀ k : Nat, itT n k (a, []) = (a, [])
  | 0 => rfl
  | k + 1 => itT_end k
theorem itT_add (n : Int) : ∀ (j k : Nat) (p : P46), itT n (j + k) p = itT n k (itT n j p)
  | 0, k, p => by rw [Nat.zero_add]; rfl
  | j + 1, k, p => by
    rw [show j + 1 + k = (j + k) + 1 by omega]
    exact itT_add n j k (stT n p)
def p0 : P46 := ([], [[1, 1, 1]])
structure Inv46 (n : Int) (j : Nat) (p : P46) : Prop where
  it : p = itT n j p0
  nd : p.1.Nodup
  s1 : ∀ k ∈ p.1, k ∈ T46
  s2 : ∀ k ∈ p.2, k ∈ T2
  one : [1, 1, 1] ∈ p.1 ∨ [1, 1, 1] ∈ p.2
  mu : j + (4 * (31 - p.1.length) + p.2.length) ≤ 125
  l1 : p.1.length ≤ 31
theorem nodup_leL : ∀ (l m : List (List Int)), l.Nodup → (∀ k ∈ l, k ∈ m) → l.length ≤ m.length
  | [], _, _, _ => Nat.zero_le _
  | x :: l, m, h, s => by
    obtain ⟨h1, h2⟩ := List.nodup_cons.mp h
    have := nodup_leL l (m.erase x) h2 fun k hk => (List.mem_erase_of_ne fun e => h1 (by rw [← e]; exact hk)).mpr (s k (List.mem_cons_of_mem _ hk))
    rw [List.length_erase_of_mem (s x List.mem_cons_self)] at this
    have : 0 < m.length := List.length_pos_of_mem (s x List.mem_cons_self)
    rw [List.length_cons]
    omega
theorem Inv46.z {n : Int} : Inv46 n 0 p0 where
  it := rfl
  nd := List.nodup_nil
  s1 := fun k h => by cases h
  s2 := fun k h => by
    rw [List.mem_singleton.mp h]
    decide +kernel
  one := .inr List.mem_cons_self
  mu := by decide
  l1 := by decide
theorem Inv46.no {n : Int} {j : Nat} {ks ws : List (List Int)} {k : List Int} (I : Inv46 n j (ks, ws ++ [k])) (hn1 : 1 ≤ n) (h : ¬ (¬ k ∈ ks ∧ k.getD 2 0 ≤ n)) : Inv46 n (j + 1) (ks, ws) := by
  have hs : stT n (ks, ws ++ [k]) = (ks, ws) := by
    unfold stT
    simp only [List.getLast?_concat, List.dropLast_concat]
    rw [if_neg h]
  have mu := I.mu
  simp only [List.length_append, List.length_cons, List.length_nil] at mu
  refine ⟨by rw [itT_succ, ← I.it, hs], I.nd, I.s1, fun q hq => I.s2 q (List.mem_append_left _ hq), ?_, by show j + 1 + (4 * (31 - ks.length) + ws.length) ≤ 125; omega, I.l1⟩
  rcases I.one with z | z
  · exact .inl z
  · rcases List.mem_append.mp z with z | z
    · exact .inr z
    · have e : [1, 1, 1] = k := List.mem_singleton.mp z
      refine .inl ?_
      by_cases hk : k ∈ ks
      · rw [e]; exact hk
      · exact absurd ⟨hk, by rw [← e]; exact hn1⟩ h
theorem Inv46.yes {n : Int} {j : Nat} {ks ws : List (List Int)} {k : List Int} (I : Inv46 n j (ks, ws ++ [k])) (hn : n ≤ 100000) (h : ¬ k ∈ ks ∧ k.getD 2 0 ≤ n) : k ∈ T46 ∧ Inv46 n (j + 1) (ks ++ [k], ws ++ nbr k) := by
  have hs : stT n (ks, ws ++ [k]) = (ks ++ [k], ws ++ nbr k) := by
    unfold stT
    simp only [List.getLast?_concat, List.dropLast_concat]
    rw [if_pos h]
  have hk : k ∈ T46 := by
    rcases T2_out k (I.s2 k (List.mem_append_right _ List.mem_cons_self)) with z | z
    · exact z
    · have := h.2
      omega
  have mu := I.mu
  simp only [List.length_append, List.length_cons, List.length_nil] at mu
  have nl := nbr_len k hk
  have nd : (ks ++ [k]).Nodup := List.nodup_append.mpr ⟨I.nd, List.nodup_cons.mpr ⟨by simp, List.nodup_nil⟩, fun a ha b hb e => by
    rw [List.mem_singleton.mp hb] at e
    exact h.1 (by rw [← e]; exact ha)⟩
  have s1 : ∀ q ∈ ks ++ [k], q ∈ T46 := fun q hq => by
    rcases List.mem_append.mp hq with z | z
    · exact I.s1 q z
    · rw [List.mem_singleton.mp z]; exact hk
  have l1 := nodup_leL _ _ nd s1
  rw [T46_len, List.length_append, List.length_cons, List.length_nil] at l1
  refine ⟨hk, by rw [itT_succ, ← I.it, hs], nd, s1, fun q hq => ?_, ?_, ?_, by rw [List.length_append, List.length_cons, List.length_nil]; exact l1⟩
  · rcases List.mem_append.mp hq with z | z
    · exact I.s2 q (List.mem_append_left _ z)
    · exact nbr_sub hk z
  · rcases I.one with z | z
    · exact .inl (List.mem_append_left _ z)
    · rcases List.mem_append.mp z with z | z
      · exact .inr (List.mem_append_left _ z)
      · exact .inl (List.mem_append_right _ z)
  · show j + 1 + (4 * (31 - (ks ++ [k]).length) + (ws ++ nbr k).length) ≤ 125
    rw [List.length_append, List.length_append, List.length_cons, List.length_nil]
    omega
theorem pop_eq {a b y : SV} {ws : List (List Int)} {k : List Int} : S_threes_3 [a, b, .own ((ws ++ [k]).map tDI), y] g = .nx [a, b, .own (ws.map tDI), .d (tDI k)] g := by
  simp only [S_threes_3, sPop, List.getElem?_cons_succ, List.getElem?_cons_zero, List.map_append, List.map_cons, List.map_nil, List.getLast?_concat, List.dropLast_concat, bName, List.set_cons_succ, List.set_cons_zero]
theorem inS_eq {a x0 x2 : SV} {ks : List (List Int)} {k : List Int} : eInS (eV 3) 1 [x0, .ods ks, x2, .d (tDI k)] g = .ok (.bool (!decide (k ∈ ks))) g := by
  have e : asIntT (tDI k) = some k := asInts_map k
  simp only [eInS, eV_ap, List.getElem?_cons_succ, List.getElem?_cons_zero, bind_ok, e]
theorem ix2_eq {k : List Int} (h : k.length = 3) : opIx (tDI k) (.int 2) g = .ok (.int (k.getD 2 0)) g := by
  match k, h with
  | [x, y, z], _ => rfl
theorem test_eq {n : Int} {x2 : SV} {ks : List (List Int)} {k : List Int} (h : k.length = 3) : tAndF (tVal (eInS (eV 3) 1)) (tVal (eBin opLe (eBin opIx (eV 3) (eC (.int 2))) (eV 0))) [.d (.int n), .ods ks, x2, .d (tDI k)] g = .ok (decide (¬ k ∈ ks ∧ k.getD 2 0 ≤ n)) g := by
  rw [tAndF_ap, tVal_ap, inS_eq (a := .un)]
  by_cases hk : k ∈ ks
  · simp [hk, Out.bind]
  · have e : eBin opLe (eBin opIx (eV 3) (eC (.int 2))) (eV 0) [.d (.int n), .ods ks, x2, .d (tDI k)] g = .ok (.bool (decide (k.getD 2 0 ≤ n))) g := by
      simp only [eBin_ap, eV_ap, eC_ap, List.getElem?_cons_succ, List.getElem?_cons_zero, bind_ok, ix2_eq h, opI_int]
    simp only [hk, not_false_eq_true, true_and, decide_false, Bool.not_false, bind_ok, if_true, tVal_ap, e]
theorem put_eq {x0 x2 : SV} {ks : List (List Int)} {k : List Int} (hk : ¬ k ∈ ks) (hl : ks.length ≤ 31) (h0 : ∃ z, x0 = .d z) (h2 : ∃ z, x2 = .own z) : S_threes_5 [x0, .ods ks, x2, .d (tDI k)] g = .nx [x0, .ods (ks ++ [k]), x2, .d (tDI k)] g := by
  obtain ⟨z, rfl⟩ := h0
  obtain ⟨w, rfl⟩ := h2
  have e : asIntT (tDI k) = some k := asInts_map k
  have hs : soleS [.d z, .ods ks, .own w, .d (tDI k)] 1 = true := rfl
  have e2 : putS ks k = ks ++ [k] := if_neg hk
  simp only [S_threes_5, sPutS, eV_ap, eC_ap, List.getElem?_cons_succ, List.getElem?_cons_zero, go_ok, e, hs, e2]
  rw [if_pos ⟨by show ks.length < 1000000; omega, trivial⟩]
  rfl
theorem ext_eq {x0 x1 : SV} {ws : List (List Int)} {k : List Int} (hk : k ∈ T46) (hl : ws.length ≤ 125) : S_threes_6 [x0, x1, .own (ws.map tDI), .d (tDI k)] g = .nx [x0, x1, .own ((ws ++ nbr k).map tDI), .d (tDI k)] g := by
  have nl := nbr_len k hk
  have e : eCall m_beside (aCons (eV 3) aNil) [x0, x1, .own (ws.map tDI), .d (tDI k)] g = .ok (.list ((nbr k).map tDI)) g := by
    simp only [eCall_ap, aCons_ap, aNil_ap, eV_ap, List.getElem?_cons_succ, List.getElem?_cons_zero, bind_ok, beside_eq hk]
  simp only [S_threes_6, sExt_ap, List.getElem?_cons_succ, List.getElem?_cons_zero, e, go_ok, List.set_cons_succ, List.set_cons_zero, List.map_append]
  rw [if_pos (by rw [List.length_map, List.length_map]; show _ ≤ 1000000; omega)]
theorem ne_eq' {x0 x1 x3 : SV} {ws : List (List Int)} : W_threes_2 [x0, x1, .own (ws.map tDI), x3] g = .ok (!decide (ws = [])) g := by
  have h1 : shp (.list (ws.map tDI)) = true := lay_ts.shp (by decide)
  have h2 : shp (.list []) = true := by decide +kernel
  have h3 : PyData.eqv (.list (ws.map tDI)) (.list []) = decide (ws = []) := eqv_ts' ws []
  have e : eNeO 2 (eLst aNil) [x0, x1, .own (ws.map tDI), x3] g = .ok (.bool (!decide (ws = []))) g := by
    have e1 : eLst aNil [x0, x1, .own (ws.map tDI), x3] g = .ok (.list []) g := by simp (disch := omega) only [eV_ap, eC_ap, eBin_ap, eNeg_ap, tVal_ap, eIsN_ap, eNotN_ap, eChain_ap, tAndF_ap, tOrF_ap, tNotF_ap, tTru_ap, eAnd_ap, eOr_ap, eNot_ap, eIf_ap, aNil_ap, aCons_ap, eTup_ap, eLst_ap, oNone_ap, oSome_ap, eSl_ap, eCall_ap, iLst_ap, iTpl_ap, iRan2_apN, eOf_ap, oLst_ap, oCat_ap, oRep_ap, oSl_ap, oList_ap, oComp_ap, tYesF_ap, sNil_ap, sSeq_th, sBrk_ap, sCnt_ap, sExpr_ap, sRet_ap, sRetN_ap, sIf_ap, sSet_ap, sSetO_ap, sAsg_ap, sPar_ap, sPar3_ap, sAug_ap, sApp_ap, sExt_ap, sSetIx_ap, sFrz_ap, eIxO_ap, eLenO_ap, eIxA_ap, eLenA_ap, vOf_ap, vCons_ap, vOwn_ap, vOwn2_ap, sTup_ap, iSeq_ap, sRaise_ap, sTry_ap, eExF_ap, tIfF_ap, eRev_ap, eRevA_ap, eRevF_ap, th_nx, th_rt, th_bk, th_ct, th_exc, bind_ok, bind_exc, go_ok, go_exc, opAdd_int, opSub_int, opMul_a, opMul_b, opDiv_pos, opDiv_wide, opMod_pos, opI_int, opEq_int, opNe_int, opEq_bool, opNe_bool, atI_0, atI_1, atI_2, atI_3, opIx_list, opIx_tuple, iRan1_ap, bLen_list, bLen_tuple, bInt_int, bAbs_int, bName, bNil, bCons, bTup, List.getElem?_cons_zero, List.getElem?_cons_succ, List.set_cons_zero, List.set_cons_succ, List.length_cons, List.length_nil, noTok, if_true, if_false, decide_true, decide_false, Bool.not_true, Bool.not_false, setAll, List.map_cons, List.map_nil, truD, Bool.true_eq_false, Bool.false_eq_true, Option.bind_some, true_and, and_true, List.replicate, startR, List.cons_append, List.nil_append, Nat.sub_self, reduceIte, ↓reduceIte, DL.isNon, LIM_eq, and_self, List.map_append, List.length_map, Int.toNat_natCast, Nat.zero_le, Nat.reduceLeDiff, Int.reduceNeg, Int.reduceLE, Int.reduceLT, Int.zero_add, ran1_int, ran2_int, noEx, eq_self, dI, dP, dPs]
    simp only [eNeO, List.getElem?_cons_succ, List.getElem?_cons_zero, e1, bind_ok, h1, h2, h3]
    rfl
  unfold W_threes_2
  rw [tVal_ap, e]
  rfl
theorem m_threes_eq {n : Int} (hn1 : 1 ≤ n) (hn : n ≤ 100000) (g : G) : ∃ ks : List (List Int), m_threes [.int n] g = .ok (.list (sortD (ks.map tDI))) g ∧ ks = (itT n 125 p0).1 ∧ [1, 1, 1] ∈ ks ∧ (∀ k ∈ ks, k ∈ T46) ∧ ks.length ≤ 31 := by
  obtain ⟨ρ', g', ⟨hg, j, ks, y, I, hy, rfl⟩, hw⟩ := sWhile_run (t := W_threes_2) (f := B_threes_2) (N := 1000000000000000000000000000000) (m := 125) (g := g) (ρ := [.d (.int n), .ods [], .own ([[1, 1, 1]].map tDI), .un])
    (fun m ρ g' => g' = g ∧ ∃ j ks ws y, Inv46 n j (ks, ws) ∧ m = 4 * (31 - ks.length) + ws.length ∧ (y = .un ∨ ∃ z, y = .d z) ∧ ρ = [.d (.int n), .ods ks, .own (ws.map tDI), y])
    (fun ρ g' => g' = g ∧ ∃ j ks y, Inv46 n j (ks, []) ∧ (y = .un ∨ ∃ z, y = .d z) ∧ ρ = [.d (.int n), .ods ks, .own [], y])
    ⟨rfl, 0, [], [[1, 1, 1]], .un, .z, rfl, .inl rfl, rfl⟩ (by decide) (by
      rintro m ρ g' ⟨rfl, j, ks, ws, y, I, rfl, hy, rfl⟩
      rcases List.eq_nil_or_concat ws with rfl | ⟨ws', k, rfl⟩
      · left
        refine ⟨?_, rfl, j, ks, y, I, hy, rfl⟩
        rw [ne_eq']
        rfl
      · right
        simp only [List.concat_eq_append] at I ⊢
        refine ⟨?_, ?_⟩
        · rw [ne_eq', decide_eq_false (by simp)]
          rfl
        have hk3 : k.length = 3 := T2_len k (I.s2 k (List.mem_append_right _ List.mem_cons_self))
        have mu := I.mu
        simp only [List.length_append, List.length_cons, List.length_nil] at mu ⊢
        by_cases h : ¬ k ∈ ks ∧ k.getD 2 0 ≤ n
        · obtain ⟨hk, I'⟩ := I.yes hn h
          have l2 := I'.l1
          simp only [List.length_append, List.length_cons, List.length_nil] at l2
          have nl := nbr_len k hk
          refine ⟨4 * (31 - (ks ++ [k]).length) + (ws' ++ nbr k).length, _, _, ?_, .inl ?_, rfl, j + 1, _, _, .d (tDI k), I', rfl, .inr ⟨_, rfl⟩, rfl⟩
          · simp only [List.length_append, List.length_cons, List.length_nil]
            omega
          · refine seq_nx pop_eq ?_
            unfold S_threes_4
            rw [sIf_ap, test_eq hk3, decide_eq_true h]
            exact seq_nx (put_eq h.1 (by omega) ⟨_, rfl⟩ ⟨_, rfl⟩) (ext_eq hk (by omega))
        · have I' := I.no hn1 h
          refine ⟨4 * (31 - ks.length) + ws'.length, _, _, by omega, .inl ?_, rfl, j + 1, _, _, .d (tDI k), I', rfl, .inr ⟨_, rfl⟩, rfl⟩
          refine seq_nx pop_eq ?_
          unfold S_threes_4
          rw [sIf_ap, test_eq hk3, decide_eq_false h]
          rfl)
  rw [hg] at hw
  have h1 : S_threes_1 [.d (.int n), .un, .un, .un] g = .nx [.d (.int n), .ods [], .own ([[1, 1, 1]].map tDI), .un] g := rfl
  have hone : [1, 1, 1] ∈ ks := by
    rcases I.one with z | z
    · exact z
    · cases z
  have mu := I.mu
  refine ⟨ks, ?_, ?_, hone, I.s1, I.l1⟩
  · refine m_rt (np := 1) rfl (Eq.trans (b := sem_threes [.d (.int n), .un, .un, .un] g) rfl ?_)
    refine seq_nx h1 (seq_nx hw ?_)
    have e : eSortS 1 [.d (.int n), .ods ks, .own [], y] g = .ok (.list (sortD (ks.map tDI))) g := by
      simp only [eSortS, List.getElem?_cons_succ, List.getElem?_cons_zero]
      rw [if_pos (sortOk_ts ks fun k hk e => by
        have := T2_len k (T46_sub (I.s1 k hk))
        rw [e] at this
        cases this)]
    unfold S_threes_7
    rw [sRet_ap, e]
    rfl
  · have h2 : itT n 125 p0 = (ks, []) := by
      have : 125 = j + (125 - j) := by omega
      rw [this, itT_add, ← I.it, itT_end]
    rw [h2]
end K46
namespace K46
open PySem
open PySem.Spec
open PyProof.Rows
open L2
open DL
theorem sq_lt {a b : Int} (ha : 0 ≤ a) (h : a < b) : a * a < b * b := by
  have h1 : a * a ≤ a * b := Int.mul_le_mul_of_nonneg_left (Int.le_of_lt h) ha
  have h2 : a * b < b * b := Int.mul_lt_mul_of_pos_right h (by omega)
  omega
theorem lt_of_sq {a b : Int} (hb : 0 ≤ b) (h : a * a < b * b) : a < b := by
  rcases Int.lt_or_le a b with z | z
  · exact z
  · rcases Int.lt_or_eq_of_le z with y | y
    · have := sq_lt hb y
      omega
    · subst y
      omega
theorem m__law_root_eq {n : Int} (h0 : 0 ≤ n) (hn : n < 1000000000000) (g : G) : ∃ r : Int, m__law_root [.int n] g = .ok (.int r) g ∧ 0 ≤ r ∧ r * r ≤ n ∧ n < (r + 1) * (r + 1) := by
  obtain ⟨ρ', g', ⟨hg, h, h1, h2, h9, rfl⟩, hw⟩ := sWhile_run (t := W__law_root_2) (f := B__law_root_2) (N := 1000000000000000000000000000000) (m := 1000000000001) (g := g) (ρ := [.d (.int n), .d (.int 0), .d (.int 1), .un])
    (fun m ρ g' => g' = g ∧ ∃ h : Int, 1 ≤ h ∧ h ≤ 2 * n + 1 ∧ m = (1000000000002 - h).toNat + 0 ∧ (h ≤ 1000000000001 ∨ n < h * h) ∧ ρ = [.d (.int n), .d (.int 0), .d (.int h), .un])
    (fun ρ g' => g' = g ∧ ∃ h : Int, 1 ≤ h ∧ n < h * h ∧ h ≤ 2000000000001 ∧ ρ = [.d (.int n), .d (.int 0), .d (.int h), .un])
    ⟨rfl, 1, by omega, by omega, by decide, .inl (by decide), rfl⟩ (by decide) (by
      rintro m ρ g' ⟨rfl, h, h1, h2, hm, h3, rfl⟩
      by_cases hc : h * h ≤ n
      · right
        have hle : h ≤ h * h := by
          have := Int.mul_le_mul_of_nonneg_left h1 (show 0 ≤ h by omega)
          omega
        refine ⟨by simp (disch := omega) only [W__law_root_2, hc, eV_ap, eC_ap, eBin_ap, eNeg_ap, tVal_ap, eIsN_ap, eNotN_ap, eChain_ap, tAndF_ap, tOrF_ap, tNotF_ap, tTru_ap, eAnd_ap, eOr_ap, eNot_ap, eIf_ap, aNil_ap, aCons_ap, eTup_ap, eLst_ap, oNone_ap, oSome_ap, eSl_ap, eCall_ap, iLst_ap, iTpl_ap, iRan2_apN, eOf_ap, oLst_ap, oCat_ap, oRep_ap, oSl_ap, oList_ap, oComp_ap, tYesF_ap, sNil_ap, sSeq_th, sBrk_ap, sCnt_ap, sExpr_ap, sRet_ap, sRetN_ap, sIf_ap, sSet_ap, sSetO_ap, sAsg_ap, sPar_ap, sPar3_ap, sAug_ap, sApp_ap, sExt_ap, sSetIx_ap, sFrz_ap, eIxO_ap, eLenO_ap, eIxA_ap, eLenA_ap, vOf_ap, vCons_ap, vOwn_ap, vOwn2_ap, sTup_ap, iSeq_ap, sRaise_ap, sTry_ap, eExF_ap, tIfF_ap, eRev_ap, eRevA_ap, eRevF_ap, th_nx, th_rt, th_bk, th_ct, th_exc, bind_ok, bind_exc, go_ok, go_exc, opAdd_int, opSub_int, opMul_a, opMul_b, opDiv_pos, opDiv_wide, opMod_pos, opI_int, opEq_int, opNe_int, opEq_bool, opNe_bool, atI_0, atI_1, atI_2, atI_3, opIx_list, opIx_tuple, iRan1_ap, bLen_list, bLen_tuple, bInt_int, bAbs_int, bName, bNil, bCons, bTup, List.getElem?_cons_zero, List.getElem?_cons_succ, List.set_cons_zero, List.set_cons_succ, List.length_cons, List.length_nil, noTok, if_true, if_false, decide_true, decide_false, Bool.not_true, Bool.not_false, setAll, List.map_cons, List.map_nil, truD, Bool.true_eq_false, Bool.false_eq_true, Option.bind_some, true_and, and_true, List.replicate, startR, List.cons_append, List.nil_append, Nat.sub_self, reduceIte, ↓reduceIte, DL.isNon, LIM_eq, and_self, List.map_append, List.length_map, Int.toNat_natCast, Nat.zero_le, Nat.reduceLeDiff, Int.reduceNeg, Int.reduceLE, Int.reduceLT, Int.zero_add, ran1_int, ran2_int, noEx, eq_self, dI, dP, dPs], (1000000000002 - h * 2).toNat + 0, [.d (.int n), .d (.int 0), .d (.int (h * 2)), .un], g', by omega, .inl ?_, rfl, h * 2, by omega, by omega, rfl, ?_, rfl⟩
        · simp (disch := omega) only [B__law_root_2, S__law_root_3, eV_ap, eC_ap, eBin_ap, eNeg_ap, tVal_ap, eIsN_ap, eNotN_ap, eChain_ap, tAndF_ap, tOrF_ap, tNotF_ap, tTru_ap, eAnd_ap, eOr_ap, eNot_ap, eIf_ap, aNil_ap, aCons_ap, eTup_ap, eLst_ap, oNone_ap, oSome_ap, eSl_ap, eCall_ap, iLst_ap, iTpl_ap, iRan2_apN, eOf_ap, oLst_ap, oCat_ap, oRep_ap, oSl_ap, oList_ap, oComp_ap, tYesF_ap, sNil_ap, sSeq_th, sBrk_ap, sCnt_ap, sExpr_ap, sRet_ap, sRetN_ap, sIf_ap, sSet_ap, sSetO_ap, sAsg_ap, sPar_ap, sPar3_ap, sAug_ap, sApp_ap, sExt_ap, sSetIx_ap, sFrz_ap, eIxO_ap, eLenO_ap, eIxA_ap, eLenA_ap, vOf_ap, vCons_ap, vOwn_ap, vOwn2_ap, sTup_ap, iSeq_ap, sRaise_ap, sTry_ap, eExF_ap, tIfF_ap, eRev_ap, eRevA_ap, eRevF_ap, th_nx, th_rt, th_bk, th_ct, th_exc, bind_ok, bind_exc, go_ok, go_exc, opAdd_int, opSub_int, opMul_a, opMul_b, opDiv_pos, opDiv_wide, opMod_pos, opI_int, opEq_int, opNe_int, opEq_bool, opNe_bool, atI_0, atI_1, atI_2, atI_3, opIx_list, opIx_tuple, iRan1_ap, bLen_list, bLen_tuple, bInt_int, bAbs_int, bName, bNil, bCons, bTup, List.getElem?_cons_zero, List.getElem?_cons_succ, List.set_cons_zero, List.set_cons_succ, List.length_cons, List.length_nil, noTok, if_true, if_false, decide_true, decide_false, Bool.not_true, Bool.not_false, setAll, List.map_cons, List.map_nil, truD, Bool.true_eq_false, Bool.false_eq_true, Option.bind_some, true_and, and_true, List.replicate, startR, List.cons_append, List.nil_append, Nat.sub_self, reduceIte, ↓reduceIte, DL.isNon, LIM_eq, and_self, List.map_append, List.length_map, Int.toNat_natCast, Nat.zero_le, Nat.reduceLeDiff, Int.reduceNeg, Int.reduceLE, Int.reduceLT, Int.zero_add, ran1_int, ran2_int, noEx, eq_self, dI, dP, dPs]
        · by_cases hh : h * 2 ≤ 1000000000001
          · exact .inl hh
          · right
            have : h * 2 ≤ h * 2 * (h * 2) := by
              have := Int.mul_le_mul_of_nonneg_left (show (1:Int) ≤ h * 2 by omega) (show 0 ≤ h * 2 by omega)
              omega
            omega
      · left
        exact ⟨by simp (disch := omega) only [W__law_root_2, hc, eV_ap, eC_ap, eBin_ap, eNeg_ap, tVal_ap, eIsN_ap, eNotN_ap, eChain_ap, tAndF_ap, tOrF_ap, tNotF_ap, tTru_ap, eAnd_ap, eOr_ap, eNot_ap, eIf_ap, aNil_ap, aCons_ap, eTup_ap, eLst_ap, oNone_ap, oSome_ap, eSl_ap, eCall_ap, iLst_ap, iTpl_ap, iRan2_apN, eOf_ap, oLst_ap, oCat_ap, oRep_ap, oSl_ap, oList_ap, oComp_ap, tYesF_ap, sNil_ap, sSeq_th, sBrk_ap, sCnt_ap, sExpr_ap, sRet_ap, sRetN_ap, sIf_ap, sSet_ap, sSetO_ap, sAsg_ap, sPar_ap, sPar3_ap, sAug_ap, sApp_ap, sExt_ap, sSetIx_ap, sFrz_ap, eIxO_ap, eLenO_ap, eIxA_ap, eLenA_ap, vOf_ap, vCons_ap, vOwn_ap, vOwn2_ap, sTup_ap, iSeq_ap, sRaise_ap, sTry_ap, eExF_ap, tIfF_ap, eRev_ap, eRevA_ap, eRevF_ap, th_nx, th_rt, th_bk, th_ct, th_exc, bind_ok, bind_exc, go_ok, go_exc, opAdd_int, opSub_int, opMul_a, opMul_b, opDiv_pos, opDiv_wide, opMod_pos, opI_int, opEq_int, opNe_int, opEq_bool, opNe_bool, atI_0, atI_1, atI_2, atI_3, opIx_list, opIx_tuple, iRan1_ap, bLen_list, bLen_tuple, bInt_int, bAbs_int, bName, bNil, bCons, bTup, List.getElem?_cons_zero, List.getElem?_cons_succ, List.set_cons_zero, List.set_cons_succ, List.length_cons, List.length_nil, noTok, if_true, if_false, decide_true, decide_false, Bool.not_true, Bool.not_false, setAll, List.map_cons, List.map_nil, truD, Bool.true_eq_false, Bool.false_eq_true, Option.bind_some, true_and, and_true, List.replicate, startR, List.cons_append, List.nil_append, Nat.sub_self, reduceIte, ↓reduceIte, DL.isNon, LIM_eq, and_self, List.map_append, List.length_map, Int.toNat_natCast, Nat.zero_le, Nat.reduceLeDiff, Int.reduceNeg, Int.reduceLE, Int.reduceLT, Int.zero_add, ran1_int, ran2_int, noEx, eq_self, dI, dP, dPs], rfl, h, h1, by omega, by omega, rfl⟩)
  obtain ⟨ρ2, g2, ⟨hg2, lo, hi, y, l0, l1, l2, l3, rfl⟩, hw2⟩ := sWhile_run (t := W__law_root_4) (f := B__law_root_4) (N := 1000000000000000000000000000000) (m := h.toNat) (g := g) (ρ := [.d (.int n), .d (.int 0), .d (.int h), .un])
    (fun m ρ g' => g' = g ∧ ∃ (lo hi : Int) (y : SV), 0 ≤ lo ∧ lo * lo ≤ n ∧ n < hi * hi ∧ lo < hi ∧ hi ≤ 2000000000001 ∧ m = (hi - lo).toNat ∧ ρ = [.d (.int n), .d (.int lo), .d (.int hi), y])
    (fun ρ g' => g' = g ∧ ∃ (lo hi : Int) (y : SV), 0 ≤ lo ∧ lo * lo ≤ n ∧ n < hi * hi ∧ hi = lo + 1 ∧ ρ = [.d (.int n), .d (.int lo), .d (.int hi), y])
    ⟨rfl, 0, h, .un, by omega, by omega, h2, by omega, h9, by omega, rfl⟩ (by omega) (by
      rintro m ρ g' ⟨rfl, lo, hi, y, l0, l1, l2, l3, l4, rfl, rfl⟩
      by_cases hc : 1 < hi - lo
      · right
        refine ⟨by simp (disch := omega) only [W__law_root_4, hc, eV_ap, eC_ap, eBin_ap, eNeg_ap, tVal_ap, eIsN_ap, eNotN_ap, eChain_ap, tAndF_ap, tOrF_ap, tNotF_ap, tTru_ap, eAnd_ap, eOr_ap, eNot_ap, eIf_ap, aNil_ap, aCons_ap, eTup_ap, eLst_ap, oNone_ap, oSome_ap, eSl_ap, eCall_ap, iLst_ap, iTpl_ap, iRan2_apN, eOf_ap, oLst_ap, oCat_ap, oRep_ap, oSl_ap, oList_ap, oComp_ap, tYesF_ap, sNil_ap, sSeq_th, sBrk_ap, sCnt_ap, sExpr_ap, sRet_ap, sRetN_ap, sIf_ap, sSet_ap, sSetO_ap, sAsg_ap, sPar_ap, sPar3_ap, sAug_ap, sApp_ap, sExt_ap, sSetIx_ap, sFrz_ap, eIxO_ap, eLenO_ap, eIxA_ap, eLenA_ap, vOf_ap, vCons_ap, vOwn_ap, vOwn2_ap, sTup_ap, iSeq_ap, sRaise_ap, sTry_ap, eExF_ap, tIfF_ap, eRev_ap, eRevA_ap, eRevF_ap, th_nx, th_rt, th_bk, th_ct, th_exc, bind_ok, bind_exc, go_ok, go_exc, opAdd_int, opSub_int, opMul_a, opMul_b, opDiv_pos, opDiv_wide, opMod_pos, opI_int, opEq_int, opNe_int, opEq_bool, opNe_bool, atI_0, atI_1, atI_2, atI_3, opIx_list, opIx_tuple, iRan1_ap, bLen_list, bLen_tuple, bInt_int, bAbs_int, bName, bNil, bCons, bTup, List.getElem?_cons_zero, List.getElem?_cons_succ, List.set_cons_zero, List.set_cons_succ, List.length_cons, List.length_nil, noTok, if_true, if_false, decide_true, decide_false, Bool.not_true, Bool.not_false, setAll, List.map_cons, List.map_nil, truD, Bool.true_eq_false, Bool.false_eq_true, Option.bind_some, true_and, and_true, List.replicate, startR, List.cons_append, List.nil_append, Nat.sub_self, reduceIte, ↓reduceIte, DL.isNon, LIM_eq, and_self, List.map_append, List.length_map, Int.toNat_natCast, Nat.zero_le, Nat.reduceLeDiff, Int.reduceNeg, Int.reduceLE, Int.reduceLT, Int.zero_add, ran1_int, ran2_int, noEx, eq_self, dI, dP, dPs], ?_⟩
        by_cases hm : (lo + hi) / 2 * ((lo + hi) / 2) ≤ n
        · have b1 : lo ≤ (lo + hi) / 2 ∧ (lo + hi) / 2 < hi := by omega
          refine ⟨(hi - (lo + hi) / 2).toNat, [.d (.int n), .d (.int ((lo + hi) / 2)), .d (.int hi), .d (.int ((lo + hi) / 2))], g', by omega, .inl ?_, rfl, (lo + hi) / 2, hi, _, by omega, hm, l2, by omega, l4, rfl, rfl⟩
          simp (disch := omega) only [B__law_root_4, S__law_root_5, S__law_root_6, S__law_root_7, hm, eV_ap, eC_ap, eBin_ap, eNeg_ap, tVal_ap, eIsN_ap, eNotN_ap, eChain_ap, tAndF_ap, tOrF_ap, tNotF_ap, tTru_ap, eAnd_ap, eOr_ap, eNot_ap, eIf_ap, aNil_ap, aCons_ap, eTup_ap, eLst_ap, oNone_ap, oSome_ap, eSl_ap, eCall_ap, iLst_ap, iTpl_ap, iRan2_apN, eOf_ap, oLst_ap, oCat_ap, oRep_ap, oSl_ap, oList_ap, oComp_ap, tYesF_ap, sNil_ap, sSeq_th, sBrk_ap, sCnt_ap, sExpr_ap, sRet_ap, sRetN_ap, sIf_ap, sSet_ap, sSetO_ap, sAsg_ap, sPar_ap, sPar3_ap, sAug_ap, sApp_ap, sExt_ap, sSetIx_ap, sFrz_ap, eIxO_ap, eLenO_ap, eIxA_ap, eLenA_ap, vOf_ap, vCons_ap, vOwn_ap, vOwn2_ap, sTup_ap, iSeq_ap, sRaise_ap, sTry_ap, eExF_ap, tIfF_ap, eRev_ap, eRevA_ap, eRevF_ap, th_nx, th_rt, th_bk, th_ct, th_exc, bind_ok, bind_exc, go_ok, go_exc, opAdd_int, opSub_int, opMul_a, opMul_b, opDiv_pos, opDiv_wide, opMod_pos, opI_int, opEq_int, opNe_int, opEq_bool, opNe_bool, atI_0, atI_1, atI_2, atI_3, opIx_list, opIx_tuple, iRan1_ap, bLen_list, bLen_tuple, bInt_int, bAbs_int, bName, bNil, bCons, bTup, List.getElem?_cons_zero, List.getElem?_cons_succ, List.set_cons_zero, List.set_cons_succ, List.length_cons, List.length_nil, noTok, if_true, if_false, decide_true, decide_false, Bool.not_true, Bool.not_false, setAll, List.map_cons, List.map_nil, truD, Bool.true_eq_false, Bool.false_eq_true, Option.bind_some, true_and, and_true, List.replicate, startR, List.cons_append, List.nil_append, Nat.sub_self, reduceIte, ↓reduceIte, DL.isNon, LIM_eq, and_self, List.map_append, List.length_map, Int.toNat_natCast, Nat.zero_le, Nat.reduceLeDiff, Int.reduceNeg, Int.reduceLE, Int.reduceLT, Int.zero_add, ran1_int, ran2_int, noEx, eq_self, dI, dP, dPs]
        · have b1 : lo ≤ (lo + hi) / 2 ∧ (lo + hi) / 2 < hi := by omega
          refine ⟨((lo + hi) / 2 - lo).toNat, [.d (.int n), .d (.int lo), .d (.int ((lo + hi) / 2)), .d (.int ((lo + hi) / 2))], g', by omega, .inl ?_, rfl, lo, (lo + hi) / 2, _, by omega, l1, by omega, by omega, by omega, rfl, rfl⟩
          simp (disch := omega) only [B__law_root_4, S__law_root_5, S__law_root_6, S__law_root_8, hm, eV_ap, eC_ap, eBin_ap, eNeg_ap, tVal_ap, eIsN_ap, eNotN_ap, eChain_ap, tAndF_ap, tOrF_ap, tNotF_ap, tTru_ap, eAnd_ap, eOr_ap, eNot_ap, eIf_ap, aNil_ap, aCons_ap, eTup_ap, eLst_ap, oNone_ap, oSome_ap, eSl_ap, eCall_ap, iLst_ap, iTpl_ap, iRan2_apN, eOf_ap, oLst_ap, oCat_ap, oRep_ap, oSl_ap, oList_ap, oComp_ap, tYesF_ap, sNil_ap, sSeq_th, sBrk_ap, sCnt_ap, sExpr_ap, sRet_ap, sRetN_ap, sIf_ap, sSet_ap, sSetO_ap, sAsg_ap, sPar_ap, sPar3_ap, sAug_ap, sApp_ap, sExt_ap, sSetIx_ap, sFrz_ap, eIxO_ap, eLenO_ap, eIxA_ap, eLenA_ap, vOf_ap, vCons_ap, vOwn_ap, vOwn2_ap, sTup_ap, iSeq_ap, sRaise_ap, sTry_ap, eExF_ap, tIfF_ap, eRev_ap, eRevA_ap, eRevF_ap, th_nx, th_rt, th_bk, th_ct, th_exc, bind_ok, bind_exc, go_ok, go_exc, opAdd_int, opSub_int, opMul_a, opMul_b, opDiv_pos, opDiv_wide, opMod_pos, opI_int, opEq_int, opNe_int, opEq_bool, opNe_bool, atI_0, atI_1, atI_2, atI_3, opIx_list, opIx_tuple, iRan1_ap, bLen_list, bLen_tuple, bInt_int, bAbs_int, bName, bNil, bCons, bTup, List.getElem?_cons_zero, List.getElem?_cons_succ, List.set_cons_zero, List.set_cons_succ, List.length_cons, List.length_nil, noTok, if_true, if_false, decide_true, decide_false, Bool.not_true, Bool.not_false, setAll, List.map_cons, List.map_nil, truD, Bool.true_eq_false, Bool.false_eq_true, Option.bind_some, true_and, and_true, List.replicate, startR, List.cons_append, List.nil_append, Nat.sub_self, reduceIte, ↓reduceIte, DL.isNon, LIM_eq, and_self, List.map_append, List.length_map, Int.toNat_natCast, Nat.zero_le, Nat.reduceLeDiff, Int.reduceNeg, Int.reduceLE, Int.reduceLT, Int.zero_add, ran1_int, ran2_int, noEx, eq_self, dI, dP, dPs]
      · left
        exact ⟨by simp (disch := omega) only [W__law_root_4, hc, eV_ap, eC_ap, eBin_ap, eNeg_ap, tVal_ap, eIsN_ap, eNotN_ap, eChain_ap, tAndF_ap, tOrF_ap, tNotF_ap, tTru_ap, eAnd_ap, eOr_ap, eNot_ap, eIf_ap, aNil_ap, aCons_ap, eTup_ap, eLst_ap, oNone_ap, oSome_ap, eSl_ap, eCall_ap, iLst_ap, iTpl_ap, iRan2_apN, eOf_ap, oLst_ap, oCat_ap, oRep_ap, oSl_ap, oList_ap, oComp_ap, tYesF_ap, sNil_ap, sSeq_th, sBrk_ap, sCnt_ap, sExpr_ap, sRet_ap, sRetN_ap, sIf_ap, sSet_ap, sSetO_ap, sAsg_ap, sPar_ap, sPar3_ap, sAug_ap, sApp_ap, sExt_ap, sSetIx_ap, sFrz_ap, eIxO_ap, eLenO_ap, eIxA_ap, eLenA_ap, vOf_ap, vCons_ap, vOwn_ap, vOwn2_ap, sTup_ap, iSeq_ap, sRaise_ap, sTry_ap, eExF_ap, tIfF_ap, eRev_ap, eRevA_ap, eRevF_ap, th_nx, th_rt, th_bk, th_ct, th_exc, bind_ok, bind_exc, go_ok, go_exc, opAdd_int, opSub_int, opMul_a, opMul_b, opDiv_pos, opDiv_wide, opMod_pos, opI_int, opEq_int, opNe_int, opEq_bool, opNe_bool, atI_0, atI_1, atI_2, atI_3, opIx_list, opIx_tuple, iRan1_ap, bLen_list, bLen_tuple, bInt_int, bAbs_int, bName, bNil, bCons, bTup, List.getElem?_cons_zero, List.getElem?_cons_succ, List.set_cons_zero, List.set_cons_succ, List.length_cons, List.length_nil, noTok, if_true, if_false, decide_true, decide_false, Bool.not_true, Bool.not_false, setAll, List.map_cons, List.map_nil, truD, Bool.true_eq_false, Bool.false_eq_true, Option.bind_some, true_and, and_true, List.replicate, startR, List.cons_append, List.nil_append, Nat.sub_self, reduceIte, ↓reduceIte, DL.isNon, LIM_eq, and_self, List.map_append, List.length_map, Int.toNat_natCast, Nat.zero_le, Nat.reduceLeDiff, Int.reduceNeg, Int.reduceLE, Int.reduceLT, Int.zero_add, ran1_int, ran2_int, noEx, eq_self, dI, dP, dPs], rfl, lo, hi, y, l0, l1, l2, by omega, rfl⟩)
  subst hg hg2
  refine ⟨lo, ?_, l0, l1, by rw [← l3]; exact l2⟩
  refine m_rt (np := 1) rfl (Eq.trans (b := sem__law_root [.d (.int n), .un, .un, .un] g2) rfl ?_)
  refine seq_nx (ρ1 := [.d (.int n), .d (.int 0), .d (.int 1), .un]) (g1 := g2) ?_ (seq_nx hw (seq_nx hw2 ?_))
  · simp (disch := omega) only [S__law_root_1, eV_ap, eC_ap, eBin_ap, eNeg_ap, tVal_ap, eIsN_ap, eNotN_ap, eChain_ap, tAndF_ap, tOrF_ap, tNotF_ap, tTru_ap, eAnd_ap, eOr_ap, eNot_ap, eIf_ap, aNil_ap, aCons_ap, eTup_ap, eLst_ap, oNone_ap, oSome_ap, eSl_ap, eCall_ap, iLst_ap, iTpl_ap, iRan2_apN, eOf_ap, oLst_ap, oCat_ap, oRep_ap, oSl_ap, oList_ap, oComp_ap, tYesF_ap, sNil_ap, sSeq_th, sBrk_ap, sCnt_ap, sExpr_ap, sRet_ap, sRetN_ap, sIf_ap, sSet_ap, sSetO_ap, sAsg_ap, sPar_ap, sPar3_ap, sAug_ap, sApp_ap, sExt_ap, sSetIx_ap, sFrz_ap, eIxO_ap, eLenO_ap, eIxA_ap, eLenA_ap, vOf_ap, vCons_ap, vOwn_ap, vOwn2_ap, sTup_ap, iSeq_ap, sRaise_ap, sTry_ap, eExF_ap, tIfF_ap, eRev_ap, eRevA_ap, eRevF_ap, th_nx, th_rt, th_bk, th_ct, th_exc, bind_ok, bind_exc, go_ok, go_exc, opAdd_int, opSub_int, opMul_a, opMul_b, opDiv_pos, opDiv_wide, opMod_pos, opI_int, opEq_int, opNe_int, opEq_bool, opNe_bool, atI_0, atI_1, atI_2, atI_3, opIx_list, opIx_tuple, iRan1_ap, bLen_list, bLen_tuple, bInt_int, bAbs_int, bName, bNil, bCons, bTup, List.getElem?_cons_zero, List.getElem?_cons_succ, List.set_cons_zero, List.set_cons_succ, List.length_cons, List.length_nil, noTok, if_true, if_false, decide_true, decide_false, Bool.not_true, Bool.not_false, setAll, List.map_cons, List.map_nil, truD, Bool.true_eq_false, Bool.false_eq_true, Option.bind_some, true_and, and_true, List.replicate, startR, List.cons_append, List.nil_append, Nat.sub_self, reduceIte, ↓reduceIte, DL.isNon, LIM_eq, and_self, List.map_append, List.length_map, Int.toNat_natCast, Nat.zero_le, Nat.reduceLeDiff, Int.reduceNeg, Int.reduceLE, Int.reduceLT, Int.zero_add, ran1_int, ran2_int, noEx, eq_self, dI, dP, dPs]
  · simp (disch := omega) only [S__law_root_9, eV_ap, eC_ap, eBin_ap, eNeg_ap, tVal_ap, eIsN_ap, eNotN_ap, eChain_ap, tAndF_ap, tOrF_ap, tNotF_ap, tTru_ap, eAnd_ap, eOr_ap, eNot_ap, eIf_ap, aNil_ap, aCons_ap, eTup_ap, eLst_ap, oNone_ap, oSome_ap, eSl_ap, eCall_ap, iLst_ap, iTpl_ap, iRan2_apN, eOf_ap, oLst_ap, oCat_ap, oRep_ap, oSl_ap, oList_ap, oComp_ap, tYesF_ap, sNil_ap, sSeq_th, sBrk_ap, sCnt_ap, sExpr_ap, sRet_ap, sRetN_ap, sIf_ap, sSet_ap, sSetO_ap, sAsg_ap, sPar_ap, sPar3_ap, sAug_ap, sApp_ap, sExt_ap, sSetIx_ap, sFrz_ap, eIxO_ap, eLenO_ap, eIxA_ap, eLenA_ap, vOf_ap, vCons_ap, vOwn_ap, vOwn2_ap, sTup_ap, iSeq_ap, sRaise_ap, sTry_ap, eExF_ap, tIfF_ap, eRev_ap, eRevA_ap, eRevF_ap, th_nx, th_rt, th_bk, th_ct, th_exc, bind_ok, bind_exc, go_ok, go_exc, opAdd_int, opSub_int, opMul_a, opMul_b, opDiv_pos, opDiv_wide, opMod_pos, opI_int, opEq_int, opNe_int, opEq_bool, opNe_bool, atI_0, atI_1, atI_2, atI_3, opIx_list, opIx_tuple, iRan1_ap, bLen_list, bLen_tuple, bInt_int, bAbs_int, bName, bNil, bCons, bTup, List.getElem?_cons_zero, List.getElem?_cons_succ, List.set_cons_zero, List.set_cons_succ, List.length_cons, List.length_nil, noTok, if_true, if_false, decide_true, decide_false, Bool.not_true, Bool.not_false, setAll, List.map_cons, List.map_nil, truD, Bool.true_eq_false, Bool.false_eq_true, Option.bind_some, true_and, and_true, List.replicate, startR, List.cons_append, List.nil_append, Nat.sub_self, reduceIte, ↓reduceIte, DL.isNon, LIM_eq, and_self, List.map_append, List.length_map, Int.toNat_natCast, Nat.zero_le, Nat.reduceLeDiff, Int.reduceNeg, Int.reduceLE, Int.reduceLT, Int.zero_add, ran1_int, ran2_int, noEx, eq_self, dI, dP, dPs]
end K46
namespace K46
open PySem
open PySem.Spec
open PyProof.Rows
open L2
open DL
variable {g : G}
theorem forL_nx {b : BF} {f : SF} {x : D} {xs : List D} {ρ ρ1 ρ2 : RS} {g g2 : G} {o : SO} (h1 : b x ρ = some ρ1) (h2 : f ρ1 g = .nx ρ2 g2) (h3 : forL b f xs ρ2 g2 = o) : forL b f (x :: xs) ρ g = o := by
  show (match b x ρ with | none => SO.bad | some ρ1 => match f ρ1 g with | .nx ρ2 g2 => forL b f xs ρ2 g2 | .ct ρ2 g2 => forL b f xs ρ2 g2 | .bk ρ2 g2 => .nx ρ2 g2 | o => o) = o
  rw [h1]
  show (match f ρ1 g with | .nx ρ2 g2 => forL b f xs ρ2 g2 | .ct ρ2 g2 => forL b f xs ρ2 g2 | .bk ρ2 g2 => .nx ρ2 g2 | o => o) = o
  rw [h2]
  exact h3
theorem for_eq {g g1 : G} {fi : LF} {b : BF} {f : SF} {ρ : RS} {items : List D} {o : SO} (h : fi ρ g = .ok items g1) (h2 : forL b f items ρ g1 = o) : sFor fi b f ρ g = o := by
  unfold sFor
  rw [h]
  exact h2
theorem forL_fold {α β : Type} (F : α → D) (st : Nat → β → RS → Prop) (step : β → α → β) {b : BF} {f : SF} : ∀ (xs : List α) (i : Nat) (a : β) (ρ : RS), st i a ρ → (∀ x ∈ xs, ∀ j a ρ, i ≤ j → j < i + xs.length → st j a ρ → ∃ ρ1 ρ2, b (F x) ρ = some ρ1 ∧ f ρ1 g = .nx ρ2 g ∧ st (j + 1) (step a x) ρ2) →
    ∃ ρ', st (i + xs.length) (xs.foldl step a) ρ' ∧ forL b f (xs.map F) ρ g = .nx ρ' g
  | [], i, a, ρ, h, _ => ⟨ρ, h, rfl⟩
  | x :: xs, i, a, ρ, h, hs => by
    obtain ⟨ρ1, ρ2, h1, h2, h3⟩ := hs x List.mem_cons_self i a ρ (Nat.le_refl _) (by rw [List.length_cons]; omega) h
    obtain ⟨ρ', k1, k2⟩ := forL_fold F st step xs (i + 1) _ ρ2 h3 fun y hy j a ρ h1 h2 => hs y (List.mem_cons_of_mem _ hy) j a ρ (by omega) (by rw [List.length_cons]; omega)
    refine ⟨ρ', ?_, forL_nx h1 h2 k2⟩
    rw [List.length_cons, show i + (xs.length + 1) = i + 1 + xs.length by omega]
    exact k1
def isqF : Nat → Nat → Nat → Nat
  | 0, _, r => r
  | k + 1, n, r => isqF k n (if (r + 2 ^ k) * (r + 2 ^ k) ≤ n then r + 2 ^ k else r)
theorem isqF_spec : ∀ (k n r : Nat), r * r ≤ n → n < (r + 2 ^ k) * (r + 2 ^ k) → isqF k n r * isqF k n r ≤ n ∧ n < (isqF k n r + 1) * (isqF k n r + 1)
  | 0, n, r, h1, h2 => ⟨h1, by show n < (r + 1) * (r + 1); simpa using h2⟩
  | k + 1, n, r, h1, h2 => by
    unfold isqF
    have e : 2 ^ (k + 1) = 2 ^ k + 2 ^ k := by rw [Nat.pow_succ]; omega
    split
    · rename_i hc
      refine isqF_spec k n _ hc ?_
      rw [e, ← Nat.add_assoc] at h2
      exact h2
    · rename_i hc
      exact isqF_spec k n r h1 (by omega)
def isq (n : Int) : Int := ((isqF 14 n.toNat 0 : Nat) : Int)
theorem isq_spec {n : Int} (h0 : 0 ≤ n) (h1 : n < 268435456) : 0 ≤ isq n ∧ isq n * isq n ≤ n ∧ n < (isq n + 1) * (isq n + 1) := by
  obtain ⟨a, b⟩ := isqF_spec 14 n.toNat 0 (by omega) (by show n.toNat < (0 + 2 ^ 14) * (0 + 2 ^ 14); omega)
  unfold isq
  refine ⟨by omega, ?_, ?_⟩
  · have := Int.ofNat_le.mpr a
    rw [Int.natCast_mul] at this
    omega
  · have := Int.ofNat_lt.mpr b
    rw [Int.natCast_mul, Int.natCast_add] at this
    have e : ((1 : Nat) : Int) = 1 := rfl
    rw [e] at this
    omega
theorem root_uniq {n r s : Int} (h0 : 0 ≤ r) (h1 : r * r ≤ n) (h2 : n < (r + 1) * (r + 1)) (k0 : 0 ≤ s) (k1 : s * s ≤ n) (k2 : n < (s + 1) * (s + 1)) : s = r := by
  have a := lt_of_sq (a := r) (b := s + 1) (by omega) (by omega)
  have b := lt_of_sq (a := s) (b := r + 1) (by omega) (by omega)
  omega
theorem law_root {n : Int} (h0 : 0 ≤ n) (h1 : n < 268435456) (g : G) : m__law_root [.int n] g = .ok (.int (isq n)) g := by
  obtain ⟨r, e, r0, r1, r2⟩ := m__law_root_eq h0 (by omega) g
  obtain ⟨s0, s1, s2⟩ := isq_spec h0 h1
  rw [e, root_uniq r0 r1 r2 s0 s1 s2]
def addT (n x y : Int) (a : List (List Int)) (z : Int) : List (List Int) := if (y ≤ z ∧ z ≤ n) ∧ x * x + y * y + z * z = 3 * x * y * z ∧ ¬ [x, y, z] ∈ a then a ++ [[x, y, z]] else a
def wh (x y : Int) : Int := 9 * x * x * y * y - 4 * (x * x + y * y)
def rowT (n x : Int) (a : List (List Int)) (y : Int) : List (List Int) :=
  if isq (wh x y) * isq (wh x y) = wh x y then addT n x y (addT n x y a ((3 * x * y - isq (wh x y)) / 2)) ((3 * x * y + isq (wh x y)) / 2) else a
def fromT (lo hi : Int) : List Int := (List.range (hi - lo).toNat).map fun (i : Nat) => lo + (i : Int)
def lawT (n : Int) : List (List Int) := (fromT 1 (n + 1)).foldl (fun a x => (fromT x (n + 1)).foldl (rowT n x) a) []
theorem mem_fromT {lo hi x : Int} (h : x ∈ fromT lo hi) : lo ≤ x ∧ x < hi := by
  unfold fromT at h
  obtain ⟨i, hi, rfl⟩ := List.mem_map.mp h
  have := List.mem_range.mp hi
  omega
theorem len_fromT {lo hi : Int} : (fromT lo hi).length = (hi - lo).toNat := by unfold fromT; simp
theorem upTo_fromT (lo hi : Int) : DL.upTo lo (hi - lo).toNat = (fromT lo hi).map .int := by
  unfold DL.upTo fromT
  rw [List.map_map]
  rfl
theorem len_addT {n x y z : Int} {a : List (List Int)} : (addT n x y a z).length ≤ a.length + 1 := by
  unfold addT
  split
  · rw [List.length_append]; exact Nat.le_refl _
  · omega
end K46
namespace K46
open PySem
open PySem.Spec
open PyProof.Rows
open L2
open DL
variable {g : G}
theorem any_ts (a : List (List Int)) (k : List Int) : ((a.map tDI).any fun z => PyData.eqv z (tDI k)) = decide (k ∈ a) := by
  induction a with
  | nil => rfl
  | cons x a ih =>
    rw [List.map_cons, List.any_cons, ih, eqv_t1]
    by_cases h : x = k
    · subst h; simp
    · have h' : ¬ k = x := fun e => h e.symm
      simp [h, h']
theorem in_eq {x0 x4 x5 : SV} {a : List (List Int)} {x y z : Int} : eInO true (eTup (aCons (eV 2) (aCons (eV 3) (aCons (eV 6) aNil)))) 1 [x0, .own (a.map tDI), .d (.int x), .d (.int y), x4, x5, .d (.int z)] g = .ok (.bool (!decide ([x, y, z] ∈ a))) g := by
  have e : eTup (aCons (eV 2) (aCons (eV 3) (aCons (eV 6) aNil))) [x0, .own (a.map tDI), .d (.int x), .d (.int y), x4, x5, .d (.int z)] g = .ok (tDI [x, y, z]) g := by
    show _ = Out.ok (PyData.tuple [.int x, .int y, .int z]) g
    simp (disch := omega) only [eV_ap, eC_ap, eBin_ap, eNeg_ap, tVal_ap, eIsN_ap, eNotN_ap, eChain_ap, tAndF_ap, tOrF_ap, tNotF_ap, tTru_ap, eAnd_ap, eOr_ap, eNot_ap, eIf_ap, aNil_ap, aCons_ap, eTup_ap, eLst_ap, oNone_ap, oSome_ap, eSl_ap, eCall_ap, iLst_ap, iTpl_ap, iRan2_apN, eOf_ap, oLst_ap, oCat_ap, oRep_ap, oSl_ap, oList_ap, oComp_ap, tYesF_ap, sNil_ap, sSeq_th, sBrk_ap, sCnt_ap, sExpr_ap, sRet_ap, sRetN_ap, sIf_ap, sSet_ap, sSetO_ap, sAsg_ap, sPar_ap, sPar3_ap, sAug_ap, sApp_ap, sExt_ap, sSetIx_ap, sFrz_ap, eIxO_ap, eLenO_ap, eIxA_ap, eLenA_ap, vOf_ap, vCons_ap, vOwn_ap, vOwn2_ap, sTup_ap, iSeq_ap, sRaise_ap, sTry_ap, eExF_ap, tIfF_ap, eRev_ap, eRevA_ap, eRevF_ap, th_nx, th_rt, th_bk, th_ct, th_exc, bind_ok, bind_exc, go_ok, go_exc, opAdd_int, opSub_int, opMul_a, opMul_b, opDiv_pos, opDiv_wide, opMod_pos, opI_int, opEq_int, opNe_int, opEq_bool, opNe_bool, atI_0, atI_1, atI_2, atI_3, opIx_list, opIx_tuple, iRan1_ap, bLen_list, bLen_tuple, bInt_int, bAbs_int, bName, bNil, bCons, bTup, List.getElem?_cons_zero, List.getElem?_cons_succ, List.set_cons_zero, List.set_cons_succ, List.length_cons, List.length_nil, noTok, if_true, if_false, decide_true, decide_false, Bool.not_true, Bool.not_false, setAll, List.map_cons, List.map_nil, truD, Bool.true_eq_false, Bool.false_eq_true, Option.bind_some, true_and, and_true, List.replicate, startR, List.cons_append, List.nil_append, Nat.sub_self, reduceIte, ↓reduceIte, DL.isNon, LIM_eq, and_self, List.map_append, List.length_map, Int.toNat_natCast, Nat.zero_le, Nat.reduceLeDiff, Int.reduceNeg, Int.reduceLE, Int.reduceLT, Int.zero_add, ran1_int, ran2_int, noEx, eq_self, dI, dP, dPs]
  have h1 : shp (.list (a.map tDI)) = true := lay_ts.shp (by decide)
  have h2 : shp (tDI [x, y, z]) = true := lay_tDI.shp (by decide)
  simp only [eInO, e, bind_ok, List.getElem?_cons_succ, List.getElem?_cons_zero, h1, h2, any_ts]
  rfl
theorem add_eq {n x y z : Int} {a : List (List Int)} {x4 x5 : SV} (hx : 1 ≤ x ∧ x ≤ 40) (hy : 1 ≤ y ∧ y ≤ 40) (hz : -1000000 ≤ z ∧ z ≤ 1000000) (ha : a.length ≤ 100000) :
    B__law_threes_7 [.d (.int n), .own (a.map tDI), .d (.int x), .d (.int y), x4, x5, .d (.int z)] g = .nx [.d (.int n), .own ((addT n x y a z).map tDI), .d (.int x), .d (.int y), x4, x5, .d (.int z)] g := by
  have p1 : -18446744073709551616 < 3 * x * y ∧ 3 * x * y < 18446744073709551616 := by
    have h1 := Int.mul_le_mul_of_nonneg_left hy.2 (show 0 ≤ 3 * x by omega)
    have h2 := Int.mul_nonneg (show 0 ≤ 3 * x by omega) (show 0 ≤ y by omega)
    omega
  have c1 : eChain (fun i j => decide (i ≤ j)) (fun i j => decide (i ≤ j)) (eV 3) (eV 6) (eV 0) [.d (.int n), .own (a.map tDI), .d (.int x), .d (.int y), x4, x5, .d (.int z)] g = .ok (.bool (decide (y ≤ z ∧ z ≤ n))) g := by
    by_cases h1 : y ≤ z
    · by_cases h2 : z ≤ n
      · simp (disch := omega) only [h1, h2, eV_ap, eC_ap, eBin_ap, eNeg_ap, tVal_ap, eIsN_ap, eNotN_ap, eChain_ap, tAndF_ap, tOrF_ap, tNotF_ap, tTru_ap, eAnd_ap, eOr_ap, eNot_ap, eIf_ap, aNil_ap, aCons_ap, eTup_ap, eLst_ap, oNone_ap, oSome_ap, eSl_ap, eCall_ap, iLst_ap, iTpl_ap, iRan2_apN, eOf_ap, oLst_ap, oCat_ap, oRep_ap, oSl_ap, oList_ap, oComp_ap, tYesF_ap, sNil_ap, sSeq_th, sBrk_ap, sCnt_ap, sExpr_ap, sRet_ap, sRetN_ap, sIf_ap, sSet_ap, sSetO_ap, sAsg_ap, sPar_ap, sPar3_ap, sAug_ap, sApp_ap, sExt_ap, sSetIx_ap, sFrz_ap, eIxO_ap, eLenO_ap, eIxA_ap, eLenA_ap, vOf_ap, vCons_ap, vOwn_ap, vOwn2_ap, sTup_ap, iSeq_ap, sRaise_ap, sTry_ap, eExF_ap, tIfF_ap, eRev_ap, eRevA_ap, eRevF_ap, th_nx, th_rt, th_bk, th_ct, th_exc, bind_ok, bind_exc, go_ok, go_exc, opAdd_int, opSub_int, opMul_a, opMul_b, opDiv_pos, opDiv_wide, opMod_pos, opI_int, opEq_int, opNe_int, opEq_bool, opNe_bool, atI_0, atI_1, atI_2, atI_3, opIx_list, opIx_tuple, iRan1_ap, bLen_list, bLen_tuple, bInt_int, bAbs_int, bName, bNil, bCons, bTup, List.getElem?_cons_zero, List.getElem?_cons_succ, List.set_cons_zero, List.set_cons_succ, List.length_cons, List.length_nil, noTok, if_true, if_false, decide_true, decide_false, Bool.not_true, Bool.not_false, setAll, List.map_cons, List.map_nil, truD, Bool.true_eq_false, Bool.false_eq_true, Option.bind_some, true_and, and_true, List.replicate, startR, List.cons_append, List.nil_append, Nat.sub_self, reduceIte, ↓reduceIte, DL.isNon, LIM_eq, and_self, List.map_append, List.length_map, Int.toNat_natCast, Nat.zero_le, Nat.reduceLeDiff, Int.reduceNeg, Int.reduceLE, Int.reduceLT, Int.zero_add, ran1_int, ran2_int, noEx, eq_self, dI, dP, dPs]
      · simp (disch := omega) only [h1, h2, eV_ap, eC_ap, eBin_ap, eNeg_ap, tVal_ap, eIsN_ap, eNotN_ap, eChain_ap, tAndF_ap, tOrF_ap, tNotF_ap, tTru_ap, eAnd_ap, eOr_ap, eNot_ap, eIf_ap, aNil_ap, aCons_ap, eTup_ap, eLst_ap, oNone_ap, oSome_ap, eSl_ap, eCall_ap, iLst_ap, iTpl_ap, iRan2_apN, eOf_ap, oLst_ap, oCat_ap, oRep_ap, oSl_ap, oList_ap, oComp_ap, tYesF_ap, sNil_ap, sSeq_th, sBrk_ap, sCnt_ap, sExpr_ap, sRet_ap, sRetN_ap, sIf_ap, sSet_ap, sSetO_ap, sAsg_ap, sPar_ap, sPar3_ap, sAug_ap, sApp_ap, sExt_ap, sSetIx_ap, sFrz_ap, eIxO_ap, eLenO_ap, eIxA_ap, eLenA_ap, vOf_ap, vCons_ap, vOwn_ap, vOwn2_ap, sTup_ap, iSeq_ap, sRaise_ap, sTry_ap, eExF_ap, tIfF_ap, eRev_ap, eRevA_ap, eRevF_ap, th_nx, th_rt, th_bk, th_ct, th_exc, bind_ok, bind_exc, go_ok, go_exc, opAdd_int, opSub_int, opMul_a, opMul_b, opDiv_pos, opDiv_wide, opMod_pos, opI_int, opEq_int, opNe_int, opEq_bool, opNe_bool, atI_0, atI_1, atI_2, atI_3, opIx_list, opIx_tuple, iRan1_ap, bLen_list, bLen_tuple, bInt_int, bAbs_int, bName, bNil, bCons, bTup, List.getElem?_cons_zero, List.getElem?_cons_succ, List.set_cons_zero, List.set_cons_succ, List.length_cons, List.length_nil, noTok, if_true, if_false, decide_true, decide_false, Bool.not_true, Bool.not_false, setAll, List.map_cons, List.map_nil, truD, Bool.true_eq_false, Bool.false_eq_true, Option.bind_some, true_and, and_true, List.replicate, startR, List.cons_append, List.nil_append, Nat.sub_self, reduceIte, ↓reduceIte, DL.isNon, LIM_eq, and_self, List.map_append, List.length_map, Int.toNat_natCast, Nat.zero_le, Nat.reduceLeDiff, Int.reduceNeg, Int.reduceLE, Int.reduceLT, Int.zero_add, ran1_int, ran2_int, noEx, eq_self, dI, dP, dPs]
    · simp (disch := omega) only [h1, eV_ap, eC_ap, eBin_ap, eNeg_ap, tVal_ap, eIsN_ap, eNotN_ap, eChain_ap, tAndF_ap, tOrF_ap, tNotF_ap, tTru_ap, eAnd_ap, eOr_ap, eNot_ap, eIf_ap, aNil_ap, aCons_ap, eTup_ap, eLst_ap, oNone_ap, oSome_ap, eSl_ap, eCall_ap, iLst_ap, iTpl_ap, iRan2_apN, eOf_ap, oLst_ap, oCat_ap, oRep_ap, oSl_ap, oList_ap, oComp_ap, tYesF_ap, sNil_ap, sSeq_th, sBrk_ap, sCnt_ap, sExpr_ap, sRet_ap, sRetN_ap, sIf_ap, sSet_ap, sSetO_ap, sAsg_ap, sPar_ap, sPar3_ap, sAug_ap, sApp_ap, sExt_ap, sSetIx_ap, sFrz_ap, eIxO_ap, eLenO_ap, eIxA_ap, eLenA_ap, vOf_ap, vCons_ap, vOwn_ap, vOwn2_ap, sTup_ap, iSeq_ap, sRaise_ap, sTry_ap, eExF_ap, tIfF_ap, eRev_ap, eRevA_ap, eRevF_ap, th_nx, th_rt, th_bk, th_ct, th_exc, bind_ok, bind_exc, go_ok, go_exc, opAdd_int, opSub_int, opMul_a, opMul_b, opDiv_pos, opDiv_wide, opMod_pos, opI_int, opEq_int, opNe_int, opEq_bool, opNe_bool, atI_0, atI_1, atI_2, atI_3, opIx_list, opIx_tuple, iRan1_ap, bLen_list, bLen_tuple, bInt_int, bAbs_int, bName, bNil, bCons, bTup, List.getElem?_cons_zero, List.getElem?_cons_succ, List.set_cons_zero, List.set_cons_succ, List.length_cons, List.length_nil, noTok, if_true, if_false, decide_true, decide_false, Bool.not_true, Bool.not_false, setAll, List.map_cons, List.map_nil, truD, Bool.true_eq_false, Bool.false_eq_true, Option.bind_some, true_and, and_true, List.replicate, startR, List.cons_append, List.nil_append, Nat.sub_self, reduceIte, ↓reduceIte, DL.isNon, LIM_eq, and_self, List.map_append, List.length_map, Int.toNat_natCast, Nat.zero_le, Nat.reduceLeDiff, Int.reduceNeg, Int.reduceLE, Int.reduceLT, Int.zero_add, ran1_int, ran2_int, noEx, eq_self, dI, dP, dPs]
      simp
  have c2 : eBin opEq (eBin opAdd (eBin opAdd (eBin opMul (eV 2) (eV 2)) (eBin opMul (eV 3) (eV 3))) (eBin opMul (eV 6) (eV 6))) (eBin opMul (eBin opMul (eBin opMul (eC (.int 3)) (eV 2)) (eV 3)) (eV 6)) [.d (.int n), .own (a.map tDI), .d (.int x), .d (.int y), x4, x5, .d (.int z)] g = .ok (.bool (decide (x * x + y * y + z * z = 3 * x * y * z))) g := by
    obtain ⟨p1, p2⟩ := p1
    simp (disch := omega) only [eV_ap, eC_ap, eBin_ap, eNeg_ap, tVal_ap, eIsN_ap, eNotN_ap, eChain_ap, tAndF_ap, tOrF_ap, tNotF_ap, tTru_ap, eAnd_ap, eOr_ap, eNot_ap, eIf_ap, aNil_ap, aCons_ap, eTup_ap, eLst_ap, oNone_ap, oSome_ap, eSl_ap, eCall_ap, iLst_ap, iTpl_ap, iRan2_apN, eOf_ap, oLst_ap, oCat_ap, oRep_ap, oSl_ap, oList_ap, oComp_ap, tYesF_ap, sNil_ap, sSeq_th, sBrk_ap, sCnt_ap, sExpr_ap, sRet_ap, sRetN_ap, sIf_ap, sSet_ap, sSetO_ap, sAsg_ap, sPar_ap, sPar3_ap, sAug_ap, sApp_ap, sExt_ap, sSetIx_ap, sFrz_ap, eIxO_ap, eLenO_ap, eIxA_ap, eLenA_ap, vOf_ap, vCons_ap, vOwn_ap, vOwn2_ap, sTup_ap, iSeq_ap, sRaise_ap, sTry_ap, eExF_ap, tIfF_ap, eRev_ap, eRevA_ap, eRevF_ap, th_nx, th_rt, th_bk, th_ct, th_exc, bind_ok, bind_exc, go_ok, go_exc, opAdd_int, opSub_int, opMul_a, opMul_b, opDiv_pos, opDiv_wide, opMod_pos, opI_int, opEq_int, opNe_int, opEq_bool, opNe_bool, atI_0, atI_1, atI_2, atI_3, opIx_list, opIx_tuple, iRan1_ap, bLen_list, bLen_tuple, bInt_int, bAbs_int, bName, bNil, bCons, bTup, List.getElem?_cons_zero, List.getElem?_cons_succ, List.set_cons_zero, List.set_cons_succ, List.length_cons, List.length_nil, noTok, if_true, if_false, decide_true, decide_false, Bool.not_true, Bool.not_false, setAll, List.map_cons, List.map_nil, truD, Bool.true_eq_false, Bool.false_eq_true, Option.bind_some, true_and, and_true, List.replicate, startR, List.cons_append, List.nil_append, Nat.sub_self, reduceIte, ↓reduceIte, DL.isNon, LIM_eq, and_self, List.map_append, List.length_map, Int.toNat_natCast, Nat.zero_le, Nat.reduceLeDiff, Int.reduceNeg, Int.reduceLE, Int.reduceLT, Int.zero_add, ran1_int, ran2_int, noEx, eq_self, dI, dP, dPs]
  have c3 := in_eq (g := g) (x0 := .d (.int n)) (x4 := x4) (x5 := x5) (a := a) (x := x) (y := y) (z := z)
  have t : tAndF (tVal (eChain (fun i j => decide (i ≤ j)) (fun i j => decide (i ≤ j)) (eV 3) (eV 6) (eV 0))) (tAndF (tVal (eBin opEq (eBin opAdd (eBin opAdd (eBin opMul (eV 2) (eV 2)) (eBin opMul (eV 3) (eV 3))) (eBin opMul (eV 6) (eV 6))) (eBin opMul (eBin opMul (eBin opMul (eC (.int 3)) (eV 2)) (eV 3)) (eV 6)))) (tVal (eInO true (eTup (aCons (eV 2) (aCons (eV 3) (aCons (eV 6) aNil)))) 1))) [.d (.int n), .own (a.map tDI), .d (.int x), .d (.int y), x4, x5, .d (.int z)] g = .ok (decide ((y ≤ z ∧ z ≤ n) ∧ x * x + y * y + z * z = 3 * x * y * z ∧ ¬ [x, y, z] ∈ a)) g := by
    rw [tAndF_ap, tVal_ap, c1]
    by_cases h1 : y ≤ z ∧ z ≤ n
    · rw [decide_eq_true h1]
      simp only [bind_ok, if_true]
      rw [tAndF_ap, tVal_ap, c2]
      by_cases h2 : x * x + y * y + z * z = 3 * x * y * z
      · rw [decide_eq_true h2]
        simp only [bind_ok, if_true]
        rw [tVal_ap, c3]
        show Out.ok (!decide ([x, y, z] ∈ a)) g = _
        congr 1
        by_cases h3 : [x, y, z] ∈ a
        · rw [decide_eq_true h3, decide_eq_false fun e => e.2.2 h3]; rfl
        · rw [decide_eq_false h3, decide_eq_true ⟨h1, h2, h3⟩]; rfl
      · rw [decide_eq_false h2, decide_eq_false fun e => h2 e.2.1]
        rfl
    · rw [decide_eq_false h1, decide_eq_false fun e => h1 e.1]
      rfl
  unfold B__law_threes_7 S__law_threes_8
  rw [sIf_ap, t]
  by_cases h : (y ≤ z ∧ z ≤ n) ∧ x * x + y * y + z * z = 3 * x * y * z ∧ ¬ [x, y, z] ∈ a
  · rw [decide_eq_true h]
    unfold addT
    rw [if_pos h]
    rw [go_ok, if_pos rfl]
    have e : eTup (aCons (eV 2) (aCons (eV 3) (aCons (eV 6) aNil))) [.d (.int n), .own (a.map tDI), .d (.int x), .d (.int y), x4, x5, .d (.int z)] g = .ok (tDI [x, y, z]) g := by
      show _ = Out.ok (PyData.tuple [.int x, .int y, .int z]) g
      simp (disch := omega) only [eV_ap, eC_ap, eBin_ap, eNeg_ap, tVal_ap, eIsN_ap, eNotN_ap, eChain_ap, tAndF_ap, tOrF_ap, tNotF_ap, tTru_ap, eAnd_ap, eOr_ap, eNot_ap, eIf_ap, aNil_ap, aCons_ap, eTup_ap, eLst_ap, oNone_ap, oSome_ap, eSl_ap, eCall_ap, iLst_ap, iTpl_ap, iRan2_apN, eOf_ap, oLst_ap, oCat_ap, oRep_ap, oSl_ap, oList_ap, oComp_ap, tYesF_ap, sNil_ap, sSeq_th, sBrk_ap, sCnt_ap, sExpr_ap, sRet_ap, sRetN_ap, sIf_ap, sSet_ap, sSetO_ap, sAsg_ap, sPar_ap, sPar3_ap, sAug_ap, sApp_ap, sExt_ap, sSetIx_ap, sFrz_ap, eIxO_ap, eLenO_ap, eIxA_ap, eLenA_ap, vOf_ap, vCons_ap, vOwn_ap, vOwn2_ap, sTup_ap, iSeq_ap, sRaise_ap, sTry_ap, eExF_ap, tIfF_ap, eRev_ap, eRevA_ap, eRevF_ap, th_nx, th_rt, th_bk, th_ct, th_exc, bind_ok, bind_exc, go_ok, go_exc, opAdd_int, opSub_int, opMul_a, opMul_b, opDiv_pos, opDiv_wide, opMod_pos, opI_int, opEq_int, opNe_int, opEq_bool, opNe_bool, atI_0, atI_1, atI_2, atI_3, opIx_list, opIx_tuple, iRan1_ap, bLen_list, bLen_tuple, bInt_int, bAbs_int, bName, bNil, bCons, bTup, List.getElem?_cons_zero, List.getElem?_cons_succ, List.set_cons_zero, List.set_cons_succ, List.length_cons, List.length_nil, noTok, if_true, if_false, decide_true, decide_false, Bool.not_true, Bool.not_false, setAll, List.map_cons, List.map_nil, truD, Bool.true_eq_false, Bool.false_eq_true, Option.bind_some, true_and, and_true, List.replicate, startR, List.cons_append, List.nil_append, Nat.sub_self, reduceIte, ↓reduceIte, DL.isNon, LIM_eq, and_self, List.map_append, List.length_map, Int.toNat_natCast, Nat.zero_le, Nat.reduceLeDiff, Int.reduceNeg, Int.reduceLE, Int.reduceLT, Int.zero_add, ran1_int, ran2_int, noEx, eq_self, dI, dP, dPs]
    unfold S__law_threes_9
    rw [sApp_ap]
    simp only [List.getElem?_cons_succ, List.getElem?_cons_zero, e, go_ok]
    rw [if_pos ⟨by rw [List.length_map]; show a.length < 1000000; omega, rfl⟩, List.map_append]
    rfl
  · rw [decide_eq_false h]
    unfold addT
    rw [if_neg h]
    rfl
theorem row_eq {n x y : Int} {a : List (List Int)} {x4 x5 x6 : SV} (hn : n ≤ 40) (hx : 1 ≤ x ∧ x ≤ 40) (hy : 1 ≤ y ∧ y ≤ 40) (ha : a.length ≤ 10000) :
    ∃ z4 z5 z6, B__law_threes_3 [.d (.int n), .own (a.map tDI), .d (.int x), .d (.int y), x4, x5, x6] g = .nx [.d (.int n), .own ((rowT n x a y).map tDI), .d (.int x), .d (.int y), z4, z5, z6] g := by
  have hxy : 1 ≤ x * y ∧ x * y ≤ 1600 := by
    have h1 := Int.mul_le_mul_of_nonneg_left hy.2 (show 0 ≤ x by omega)
    have h2 := Int.mul_le_mul_of_nonneg_left hy.1 (show 0 ≤ x by omega)
    omega
  have hxx : 1 ≤ x * x ∧ x * x ≤ 1600 := by
    have h1 := Int.mul_le_mul_of_nonneg_left hx.2 (show 0 ≤ x by omega)
    have h2 := Int.mul_le_mul_of_nonneg_left hx.1 (show 0 ≤ x by omega)
    omega
  have hyy : 1 ≤ y * y ∧ y * y ≤ 1600 := by
    have h1 := Int.mul_le_mul_of_nonneg_left hy.2 (show 0 ≤ y by omega)
    have h2 := Int.mul_le_mul_of_nonneg_left hy.1 (show 0 ≤ y by omega)
    omega
  have hw : 0 ≤ wh x y ∧ wh x y < 268435456 := by
    have e : wh x y = 9 * ((x * x) * (y * y)) - 4 * (x * x + y * y) := by unfold wh; grind
    rw [e]
    have h1 := Int.mul_le_mul_of_nonneg_left hyy.2 (show 0 ≤ x * x by omega)
    have h2 := Int.mul_le_mul_of_nonneg_left hyy.1 (show 0 ≤ x * x by omega)
    have h3 := Int.mul_le_mul_of_nonneg_right hxx.1 (show 0 ≤ y * y by omega)
    generalize x * x = X at *
    generalize y * y = Y at *
    generalize X * Y = Z at *
    omega
  have s4 : S__law_threes_4 [.d (.int n), .own (a.map tDI), .d (.int x), .d (.int y), x4, x5, x6] g = .nx [.d (.int n), .own (a.map tDI), .d (.int x), .d (.int y), .d (.int (wh x y)), x5, x6] g := by
    unfold wh
    simp (disch := omega) only [S__law_threes_4, eV_ap, eC_ap, eBin_ap, eNeg_ap, tVal_ap, eIsN_ap, eNotN_ap, eChain_ap, tAndF_ap, tOrF_ap, tNotF_ap, tTru_ap, eAnd_ap, eOr_ap, eNot_ap, eIf_ap, aNil_ap, aCons_ap, eTup_ap, eLst_ap, oNone_ap, oSome_ap, eSl_ap, eCall_ap, iLst_ap, iTpl_ap, iRan2_apN, eOf_ap, oLst_ap, oCat_ap, oRep_ap, oSl_ap, oList_ap, oComp_ap, tYesF_ap, sNil_ap, sSeq_th, sBrk_ap, sCnt_ap, sExpr_ap, sRet_ap, sRetN_ap, sIf_ap, sSet_ap, sSetO_ap, sAsg_ap, sPar_ap, sPar3_ap, sAug_ap, sApp_ap, sExt_ap, sSetIx_ap, sFrz_ap, eIxO_ap, eLenO_ap, eIxA_ap, eLenA_ap, vOf_ap, vCons_ap, vOwn_ap, vOwn2_ap, sTup_ap, iSeq_ap, sRaise_ap, sTry_ap, eExF_ap, tIfF_ap, eRev_ap, eRevA_ap, eRevF_ap, th_nx, th_rt, th_bk, th_ct, th_exc, bind_ok, bind_exc, go_ok, go_exc, opAdd_int, opSub_int, opMul_a, opMul_b, opDiv_pos, opDiv_wide, opMod_pos, opI_int, opEq_int, opNe_int, opEq_bool, opNe_bool, atI_0, atI_1, atI_2, atI_3, opIx_list, opIx_tuple, iRan1_ap, bLen_list, bLen_tuple, bInt_int, bAbs_int, bName, bNil, bCons, bTup, List.getElem?_cons_zero, List.getElem?_cons_succ, List.set_cons_zero, List.set_cons_succ, List.length_cons, List.length_nil, noTok, if_true, if_false, decide_true, decide_false, Bool.not_true, Bool.not_false, setAll, List.map_cons, List.map_nil, truD, Bool.true_eq_false, Bool.false_eq_true, Option.bind_some, true_and, and_true, List.replicate, startR, List.cons_append, List.nil_append, Nat.sub_self, reduceIte, ↓reduceIte, DL.isNon, LIM_eq, and_self, List.map_append, List.length_map, Int.toNat_natCast, Nat.zero_le, Nat.reduceLeDiff, Int.reduceNeg, Int.reduceLE, Int.reduceLT, Int.zero_add, ran1_int, ran2_int, noEx, eq_self, dI, dP, dPs]
  have s5 : S__law_threes_5 [.d (.int n), .own (a.map tDI), .d (.int x), .d (.int y), .d (.int (wh x y)), x5, x6] g = .nx [.d (.int n), .own (a.map tDI), .d (.int x), .d (.int y), .d (.int (wh x y)), .d (.int (isq (wh x y))), x6] g := by
    simp (disch := omega) only [S__law_threes_5, law_root hw.1 hw.2, eV_ap, eC_ap, eBin_ap, eNeg_ap, tVal_ap, eIsN_ap, eNotN_ap, eChain_ap, tAndF_ap, tOrF_ap, tNotF_ap, tTru_ap, eAnd_ap, eOr_ap, eNot_ap, eIf_ap, aNil_ap, aCons_ap, eTup_ap, eLst_ap, oNone_ap, oSome_ap, eSl_ap, eCall_ap, iLst_ap, iTpl_ap, iRan2_apN, eOf_ap, oLst_ap, oCat_ap, oRep_ap, oSl_ap, oList_ap, oComp_ap, tYesF_ap, sNil_ap, sSeq_th, sBrk_ap, sCnt_ap, sExpr_ap, sRet_ap, sRetN_ap, sIf_ap, sSet_ap, sSetO_ap, sAsg_ap, sPar_ap, sPar3_ap, sAug_ap, sApp_ap, sExt_ap, sSetIx_ap, sFrz_ap, eIxO_ap, eLenO_ap, eIxA_ap, eLenA_ap, vOf_ap, vCons_ap, vOwn_ap, vOwn2_ap, sTup_ap, iSeq_ap, sRaise_ap, sTry_ap, eExF_ap, tIfF_ap, eRev_ap, eRevA_ap, eRevF_ap, th_nx, th_rt, th_bk, th_ct, th_exc, bind_ok, bind_exc, go_ok, go_exc, opAdd_int, opSub_int, opMul_a, opMul_b, opDiv_pos, opDiv_wide, opMod_pos, opI_int, opEq_int, opNe_int, opEq_bool, opNe_bool, atI_0, atI_1, atI_2, atI_3, opIx_list, opIx_tuple, iRan1_ap, bLen_list, bLen_tuple, bInt_int, bAbs_int, bName, bNil, bCons, bTup, List.getElem?_cons_zero, List.getElem?_cons_succ, List.set_cons_zero, List.set_cons_succ, List.length_cons, List.length_nil, noTok, if_true, if_false, decide_true, decide_false, Bool.not_true, Bool.not_false, setAll, List.map_cons, List.map_nil, truD, Bool.true_eq_false, Bool.false_eq_true, Option.bind_some, true_and, and_true, List.replicate, startR, List.cons_append, List.nil_append, Nat.sub_self, reduceIte, ↓reduceIte, DL.isNon, LIM_eq, and_self, List.map_append, List.length_map, Int.toNat_natCast, Nat.zero_le, Nat.reduceLeDiff, Int.reduceNeg, Int.reduceLE, Int.reduceLT, Int.zero_add, ran1_int, ran2_int, noEx, eq_self, dI, dP, dPs]
  obtain ⟨r0, r1, r2⟩ := isq_spec hw.1 hw.2
  have rb : isq (wh x y) < 16384 := lt_of_sq (by decide) (by omega)
  refine ⟨.d (.int (wh x y)), .d (.int (isq (wh x y))), if isq (wh x y) * isq (wh x y) = wh x y then .d (.int ((3 * x * y + isq (wh x y)) / 2)) else x6, ?_⟩
  refine seq_nx s4 (seq_nx s5 ?_)
  unfold rowT
  generalize isq (wh x y) = r at *
  generalize wh x y = w at *
  have t : tVal (eBin opEq (eBin opMul (eV 5) (eV 5)) (eV 4)) [.d (.int n), .own (a.map tDI), .d (.int x), .d (.int y), .d (.int w), .d (.int r), x6] g = .ok (decide (r * r = w)) g := by simp (disch := omega) only [eV_ap, eC_ap, eBin_ap, eNeg_ap, tVal_ap, eIsN_ap, eNotN_ap, eChain_ap, tAndF_ap, tOrF_ap, tNotF_ap, tTru_ap, eAnd_ap, eOr_ap, eNot_ap, eIf_ap, aNil_ap, aCons_ap, eTup_ap, eLst_ap, oNone_ap, oSome_ap, eSl_ap, eCall_ap, iLst_ap, iTpl_ap, iRan2_apN, eOf_ap, oLst_ap, oCat_ap, oRep_ap, oSl_ap, oList_ap, oComp_ap, tYesF_ap, sNil_ap, sSeq_th, sBrk_ap, sCnt_ap, sExpr_ap, sRet_ap, sRetN_ap, sIf_ap, sSet_ap, sSetO_ap, sAsg_ap, sPar_ap, sPar3_ap, sAug_ap, sApp_ap, sExt_ap, sSetIx_ap, sFrz_ap, eIxO_ap, eLenO_ap, eIxA_ap, eLenA_ap, vOf_ap, vCons_ap, vOwn_ap, vOwn2_ap, sTup_ap, iSeq_ap, sRaise_ap, sTry_ap, eExF_ap, tIfF_ap, eRev_ap, eRevA_ap, eRevF_ap, th_nx, th_rt, th_bk, th_ct, th_exc, bind_ok, bind_exc, go_ok, go_exc, opAdd_int, opSub_int, opMul_a, opMul_b, opDiv_pos, opDiv_wide, opMod_pos, opI_int, opEq_int, opNe_int, opEq_bool, opNe_bool, atI_0, atI_1, atI_2, atI_3, opIx_list, opIx_tuple, iRan1_ap, bLen_list, bLen_tuple, bInt_int, bAbs_int, bName, bNil, bCons, bTup, List.getElem?_cons_zero, List.getElem?_cons_succ, List.set_cons_zero, List.set_cons_succ, List.length_cons, List.length_nil, noTok, if_true, if_false, decide_true, decide_false, Bool.not_true, Bool.not_false, setAll, List.map_cons, List.map_nil, truD, Bool.true_eq_false, Bool.false_eq_true, Option.bind_some, true_and, and_true, List.replicate, startR, List.cons_append, List.nil_append, Nat.sub_self, reduceIte, ↓reduceIte, DL.isNon, LIM_eq, and_self, List.map_append, List.length_map, Int.toNat_natCast, Nat.zero_le, Nat.reduceLeDiff, Int.reduceNeg, Int.reduceLE, Int.reduceLT, Int.zero_add, ran1_int, ran2_int, noEx, eq_self, dI, dP, dPs]
  unfold S__law_threes_6
  rw [sIf_ap, t]
  by_cases hc : r * r = w
  · rw [decide_eq_true hc, if_pos hc, if_pos hc, go_ok, if_pos rfl]
    have e3 : 3 * x * y = 3 * (x * y) := by grind
    have hb : -18446744073709551616 < 3 * x ∧ 3 * x < 18446744073709551616 := by omega
    have b1 : -1000000 ≤ (3 * x * y - r) / 2 ∧ (3 * x * y - r) / 2 ≤ 1000000 := by rw [e3]; omega
    have b2 : -1000000 ≤ (3 * x * y + r) / 2 ∧ (3 * x * y + r) / 2 ≤ 1000000 := by rw [e3]; omega
    have hi : iSeq (eTup (aCons (eBin opDiv (eBin opSub (eBin opMul (eBin opMul (eC (.int 3)) (eV 2)) (eV 3)) (eV 5)) (eC (.int 2))) (aCons (eBin opDiv (eBin opAdd (eBin opMul (eBin opMul (eC (.int 3)) (eV 2)) (eV 3)) (eV 5)) (eC (.int 2))) aNil))) [.d (.int n), .own (a.map tDI), .d (.int x), .d (.int y), .d (.int w), .d (.int r), x6] g = .ok [.int ((3 * x * y - r) / 2), .int ((3 * x * y + r) / 2)] g := by
      simp (disch := omega) only [eV_ap, eC_ap, eBin_ap, eNeg_ap, tVal_ap, eIsN_ap, eNotN_ap, eChain_ap, tAndF_ap, tOrF_ap, tNotF_ap, tTru_ap, eAnd_ap, eOr_ap, eNot_ap, eIf_ap, aNil_ap, aCons_ap, eTup_ap, eLst_ap, oNone_ap, oSome_ap, eSl_ap, eCall_ap, iLst_ap, iTpl_ap, iRan2_apN, eOf_ap, oLst_ap, oCat_ap, oRep_ap, oSl_ap, oList_ap, oComp_ap, tYesF_ap, sNil_ap, sSeq_th, sBrk_ap, sCnt_ap, sExpr_ap, sRet_ap, sRetN_ap, sIf_ap, sSet_ap, sSetO_ap, sAsg_ap, sPar_ap, sPar3_ap, sAug_ap, sApp_ap, sExt_ap, sSetIx_ap, sFrz_ap, eIxO_ap, eLenO_ap, eIxA_ap, eLenA_ap, vOf_ap, vCons_ap, vOwn_ap, vOwn2_ap, sTup_ap, iSeq_ap, sRaise_ap, sTry_ap, eExF_ap, tIfF_ap, eRev_ap, eRevA_ap, eRevF_ap, th_nx, th_rt, th_bk, th_ct, th_exc, bind_ok, bind_exc, go_ok, go_exc, opAdd_int, opSub_int, opMul_a, opMul_b, opDiv_pos, opDiv_wide, opMod_pos, opI_int, opEq_int, opNe_int, opEq_bool, opNe_bool, atI_0, atI_1, atI_2, atI_3, opIx_list, opIx_tuple, iRan1_ap, bLen_list, bLen_tuple, bInt_int, bAbs_int, bName, bNil, bCons, bTup, List.getElem?_cons_zero, List.getElem?_cons_succ, List.set_cons_zero, List.set_cons_succ, List.length_cons, List.length_nil, noTok, if_true, if_false, decide_true, decide_false, Bool.not_true, Bool.not_false, setAll, List.map_cons, List.map_nil, truD, Bool.true_eq_false, Bool.false_eq_true, Option.bind_some, true_and, and_true, List.replicate, startR, List.cons_append, List.nil_append, Nat.sub_self, reduceIte, ↓reduceIte, DL.isNon, LIM_eq, and_self, List.map_append, List.length_map, Int.toNat_natCast, Nat.zero_le, Nat.reduceLeDiff, Int.reduceNeg, Int.reduceLE, Int.reduceLT, Int.zero_add, ran1_int, ran2_int, noEx, eq_self, dI, dP, dPs]
    have la := len_addT (n := n) (x := x) (y := y) (z := (3 * x * y - r) / 2) (a := a)
    unfold S__law_threes_7
    exact for_eq hi (forL_nx rfl (add_eq hx hy b1 (by omega)) (forL_nx rfl (add_eq hx hy b2 (by omega)) rfl))
  · rw [decide_eq_false hc, if_neg hc, if_neg hc]
    rfl
end K46
namespace K46
open PySem
open PySem.Spec
open PyProof.Rows
open L2
open DL
variable {g : G}
theorem len_rowT {n x y : Int} {a : List (List Int)} : (rowT n x a y).length ≤ a.length + 2 := by
  unfold rowT
  split
  · have h1 := len_addT (n := n) (x := x) (y := y) (z := (3 * x * y - isq (wh x y)) / 2) (a := a)
    have h2 := len_addT (n := n) (x := x) (y := y) (z := (3 * x * y + isq (wh x y)) / 2) (a := addT n x y a ((3 * x * y - isq (wh x y)) / 2))
    omega
  · omega
theorem rowT_ne {n x y : Int} {a : List (List Int)} (h : ∀ k ∈ a, k ≠ []) : ∀ k ∈ rowT n x a y, k ≠ [] := by
  have one : ∀ {a : List (List Int)} {z : Int}, (∀ k ∈ a, k ≠ []) → ∀ k ∈ addT n x y a z, k ≠ [] := by
    intro a z h k hk
    unfold addT at hk
    split at hk
    · rcases List.mem_append.mp hk with hk | hk
      · exact h k hk
      · rw [List.mem_singleton.mp hk]
        intro e
        cases e
    · exact h k hk
  unfold rowT
  split
  · exact one (one h)
  · exact h
theorem m__law_threes_eq {n : Int} (h1 : 1 ≤ n) (h2 : n ≤ 40) (g : G) : m__law_threes [.int n] g = .ok (.list (sortD ((lawT n).map tDI))) g := by
  obtain ⟨ρ', ⟨y3, y4, y5, y6, y2, ⟨hl, hne⟩, rfl⟩, hw⟩ := forL_fold (g := g) PyData.int (fun i (a : List (List Int)) ρ => ∃ y3 y4 y5 y6 y2, (a.length ≤ 80 * i ∧ ∀ k ∈ a, k ≠ []) ∧ ρ = [.d (.int n), .own (a.map tDI), y2, y3, y4, y5, y6])
    (fun a x => (fromT x (n + 1)).foldl (rowT n x) a) (b := bName 2) (f := B__law_threes_2) (fromT 1 (n + 1)) 0 [] [.d (.int n), .own [], .un, .un, .un, .un, .un] ⟨_, _, _, _, _, ⟨by simp, fun k hk => by cases hk⟩, rfl⟩ (by
      rintro x hx i a ρ i1 i2 ⟨y3, y4, y5, y6, y2, ⟨hl, hne⟩, rfl⟩
      have hx' := mem_fromT hx
      rw [len_fromT] at i2
      obtain ⟨ρ2, ⟨z3, z4, z5, z6, ⟨kl, kne⟩, rfl⟩, hv⟩ := forL_fold (g := g) PyData.int (fun j (b : List (List Int)) ρ => ∃ z3 z4 z5 z6, (b.length ≤ a.length + 2 * j ∧ ∀ k ∈ b, k ≠ []) ∧ ρ = [.d (.int n), .own (b.map tDI), .d (.int x), z3, z4, z5, z6])
        (rowT n x) (b := bName 3) (f := B__law_threes_3) (fromT x (n + 1)) 0 a [.d (.int n), .own (a.map tDI), .d (.int x), y3, y4, y5, y6] ⟨_, _, _, _, ⟨by omega, hne⟩, rfl⟩ (by
          rintro y hy j b ρ j1 j2 ⟨z3, z4, z5, z6, ⟨kl, kne⟩, rfl⟩
          have hy' := mem_fromT hy
          rw [len_fromT] at j2
          obtain ⟨w4, w5, w6, e⟩ := row_eq (g := g) (n := n) (x := x) (y := y) (x4 := z4) (x5 := z5) (x6 := z6) (a := b) h2 ⟨hx'.1, by omega⟩ ⟨by omega, by omega⟩ (by omega)
          have := len_rowT (n := n) (x := x) (y := y) (a := b)
          exact ⟨_, _, rfl, e, _, _, _, _, ⟨by omega, rowT_ne kne⟩, rfl⟩)
      have hi : iRan2 (aCons (eV 2) (aCons (eBin opAdd (eV 0) (eC (.int 1))) aNil)) [.d (.int n), .own (a.map tDI), .d (.int x), y3, y4, y5, y6] g = .ok ((fromT x (n + 1)).map .int) g := by
        rw [← upTo_fromT]
        simp (disch := omega) only [eV_ap, eC_ap, eBin_ap, eNeg_ap, tVal_ap, eIsN_ap, eNotN_ap, eChain_ap, tAndF_ap, tOrF_ap, tNotF_ap, tTru_ap, eAnd_ap, eOr_ap, eNot_ap, eIf_ap, aNil_ap, aCons_ap, eTup_ap, eLst_ap, oNone_ap, oSome_ap, eSl_ap, eCall_ap, iLst_ap, iTpl_ap, iRan2_apN, eOf_ap, oLst_ap, oCat_ap, oRep_ap, oSl_ap, oList_ap, oComp_ap, tYesF_ap, sNil_ap, sSeq_th, sBrk_ap, sCnt_ap, sExpr_ap, sRet_ap, sRetN_ap, sIf_ap, sSet_ap, sSetO_ap, sAsg_ap, sPar_ap, sPar3_ap, sAug_ap, sApp_ap, sExt_ap, sSetIx_ap, sFrz_ap, eIxO_ap, eLenO_ap, eIxA_ap, eLenA_ap, vOf_ap, vCons_ap, vOwn_ap, vOwn2_ap, sTup_ap, iSeq_ap, sRaise_ap, sTry_ap, eExF_ap, tIfF_ap, eRev_ap, eRevA_ap, eRevF_ap, th_nx, th_rt, th_bk, th_ct, th_exc, bind_ok, bind_exc, go_ok, go_exc, opAdd_int, opSub_int, opMul_a, opMul_b, opDiv_pos, opDiv_wide, opMod_pos, opI_int, opEq_int, opNe_int, opEq_bool, opNe_bool, atI_0, atI_1, atI_2, atI_3, opIx_list, opIx_tuple, iRan1_ap, bLen_list, bLen_tuple, bInt_int, bAbs_int, bName, bNil, bCons, bTup, List.getElem?_cons_zero, List.getElem?_cons_succ, List.set_cons_zero, List.set_cons_succ, List.length_cons, List.length_nil, noTok, if_true, if_false, decide_true, decide_false, Bool.not_true, Bool.not_false, setAll, List.map_cons, List.map_nil, truD, Bool.true_eq_false, Bool.false_eq_true, Option.bind_some, true_and, and_true, List.replicate, startR, List.cons_append, List.nil_append, Nat.sub_self, reduceIte, ↓reduceIte, DL.isNon, LIM_eq, and_self, List.map_append, List.length_map, Int.toNat_natCast, Nat.zero_le, Nat.reduceLeDiff, Int.reduceNeg, Int.reduceLE, Int.reduceLT, Int.zero_add, ran1_int, ran2_int, noEx, eq_self, dI, dP, dPs]
      rw [len_fromT] at kl
      exact ⟨_, _, rfl, for_eq hi hv, _, _, _, _, _, ⟨by omega, kne⟩, rfl⟩)
  have hi : iRan2 (aCons (eC (.int 1)) (aCons (eBin opAdd (eV 0) (eC (.int 1))) aNil)) [.d (.int n), .own [], .un, .un, .un, .un, .un] g = .ok ((fromT 1 (n + 1)).map .int) g := by
    rw [← upTo_fromT]
    simp (disch := omega) only [eV_ap, eC_ap, eBin_ap, eNeg_ap, tVal_ap, eIsN_ap, eNotN_ap, eChain_ap, tAndF_ap, tOrF_ap, tNotF_ap, tTru_ap, eAnd_ap, eOr_ap, eNot_ap, eIf_ap, aNil_ap, aCons_ap, eTup_ap, eLst_ap, oNone_ap, oSome_ap, eSl_ap, eCall_ap, iLst_ap, iTpl_ap, iRan2_apN, eOf_ap, oLst_ap, oCat_ap, oRep_ap, oSl_ap, oList_ap, oComp_ap, tYesF_ap, sNil_ap, sSeq_th, sBrk_ap, sCnt_ap, sExpr_ap, sRet_ap, sRetN_ap, sIf_ap, sSet_ap, sSetO_ap, sAsg_ap, sPar_ap, sPar3_ap, sAug_ap, sApp_ap, sExt_ap, sSetIx_ap, sFrz_ap, eIxO_ap, eLenO_ap, eIxA_ap, eLenA_ap, vOf_ap, vCons_ap, vOwn_ap, vOwn2_ap, sTup_ap, iSeq_ap, sRaise_ap, sTry_ap, eExF_ap, tIfF_ap, eRev_ap, eRevA_ap, eRevF_ap, th_nx, th_rt, th_bk, th_ct, th_exc, bind_ok, bind_exc, go_ok, go_exc, opAdd_int, opSub_int, opMul_a, opMul_b, opDiv_pos, opDiv_wide, opMod_pos, opI_int, opEq_int, opNe_int, opEq_bool, opNe_bool, atI_0, atI_1, atI_2, atI_3, opIx_list, opIx_tuple, iRan1_ap, bLen_list, bLen_tuple, bInt_int, bAbs_int, bName, bNil, bCons, bTup, List.getElem?_cons_zero, List.getElem?_cons_succ, List.set_cons_zero, List.set_cons_succ, List.length_cons, List.length_nil, noTok, if_true, if_false, decide_true, decide_false, Bool.not_true, Bool.not_false, setAll, List.map_cons, List.map_nil, truD, Bool.true_eq_false, Bool.false_eq_true, Option.bind_some, true_and, and_true, List.replicate, startR, List.cons_append, List.nil_append, Nat.sub_self, reduceIte, ↓reduceIte, DL.isNon, LIM_eq, and_self, List.map_append, List.length_map, Int.toNat_natCast, Nat.zero_le, Nat.reduceLeDiff, Int.reduceNeg, Int.reduceLE, Int.reduceLT, Int.zero_add, ran1_int, ran2_int, noEx, eq_self, dI, dP, dPs]
  refine m_rt (np := 1) rfl (Eq.trans (b := sem__law_threes [.d (.int n), .un, .un, .un, .un, .un, .un] g) rfl ?_)
  refine seq_nx (ρ1 := [.d (.int n), .own [], .un, .un, .un, .un, .un]) (g1 := g) rfl (seq_nx (for_eq hi hw) ?_)
  show sFrz 1 S__law_threes_10 [.d (.int n), .own ((lawT n).map tDI), y2, y3, y4, y5, y6] g = _
  rw [sFrz_ap]
  show S__law_threes_10 [.d (.int n), .d (.list ((lawT n).map tDI)), y2, y3, y4, y5, y6] g = _
  have e : eCall bSortA (aCons (eV 1) aNil) [.d (.int n), .d (.list ((lawT n).map tDI)), y2, y3, y4, y5, y6] g = .ok (.list (sortD ((lawT n).map tDI))) g := by
    simp only [eCall_ap, aCons_ap, aNil_ap, eV_ap, List.getElem?_cons_succ, List.getElem?_cons_zero, bind_ok]
    show (if sortOk ((lawT n).map tDI) = true then _ else _) = _
    rw [if_pos (show sortOk ((lawT n).map tDI) = true from sortOk_ts _ hne)]
  unfold S__law_threes_10
  rw [sRet_ap, e]
  rfl
def okS (n : Int) : Bool := eqDs (sortD ((itT n 125 p0).1.map tDI)) (sortD ((lawT n).map tDI))
theorem okS_1 : okS 1 = true := by decide +kernel
theorem okS_2 : okS 2 = true := by decide +kernel
theorem okS_3 : okS 3 = true := by decide +kernel
theorem okS_4 : okS 4 = true := by decide +kernel
theorem okS_5 : okS 5 = true := by decide +kernel
theorem okS_6 : okS 6 = true := by decide +kernel
theorem okS_7 : okS 7 = true := by decide +kernel
theorem okS_8 : okS 8 = true := by decide +kernel
theorem okS_9 : okS 9 = true := by decide +kernel
theorem okS_10 : okS 10 = true := by decide +kernel
theorem okS_11 : okS 11 = true := by decide +kernel
theorem okS_12 : okS 12 = true := by decide +kernel
theorem okS_13 : okS 13 = true := by decide +kernel
theorem okS_14 : okS 14 = true := by decide +kernel
theorem okS_15 : okS 15 = true := by decide +kernel
theorem okS_16 : okS 16 = true := by decide +kernel
theorem okS_17 : okS 17 = true := by decide +kernel
theorem okS_18 : okS 18 = true := by decide +kernel
theorem okS_19 : okS 19 = true := by decide +kernel
theorem okS_20 : okS 20 = true := by decide +kernel
theorem okS_21 : okS 21 = true := by decide +kernel
theorem okS_22 : okS 22 = true := by decide +kernel
theorem okS_23 : okS 23 = true := by decide +kernel
theorem okS_24 : okS 24 = true := by decide +kernel
theorem okS_25 : okS 25 = true := by decide +kernel
theorem okS_26 : okS 26 = true := by decide +kernel
theorem okS_27 : okS 27 = true := by decide +kernel
theorem okS_28 : okS 28 = true := by decide +kernel
theorem okS_29 : okS 29 = true := by decide +kernel
theorem okS_30 : okS 30 = true := by decide +kernel
theorem okS_31 : okS 31 = true := by decide +kernel
theorem okS_32 : okS 32 = true := by decide +kernel
theorem okS_33 : okS 33 = true := by decide +kernel
theorem okS_34 : okS 34 = true := by decide +kernel
theorem okS_35 : okS 35 = true := by decide +kernel
theorem okS_36 : okS 36 = true := by decide +kernel
theorem okS_37 : okS 37 = true := by decide +kernel
theorem okS_38 : okS 38 = true := by decide +kernel
theorem okS_39 : okS 39 = true := by decide +kernel
theorem okS_40 : okS 40 = true := by decide +kernel
theorem okS_all {n : Int} (h1 : 1 ≤ n) (h2 : n ≤ 40) : okS n = true := by
  rcases (show n = 1 ∨ n = 2 ∨ n = 3 ∨ n = 4 ∨ n = 5 ∨ n = 6 ∨ n = 7 ∨ n = 8 ∨ n = 9 ∨ n = 10 ∨ n = 11 ∨ n = 12 ∨ n = 13 ∨ n = 14 ∨ n = 15 ∨ n = 16 ∨ n = 17 ∨ n = 18 ∨ n = 19 ∨ n = 20 ∨ n = 21 ∨ n = 22 ∨ n = 23 ∨ n = 24 ∨ n = 25 ∨ n = 26 ∨ n = 27 ∨ n = 28 ∨ n = 29 ∨ n = 30 ∨ n = 31 ∨ n = 32 ∨ n = 33 ∨ n = 34 ∨ n = 35 ∨ n = 36 ∨ n = 37 ∨ n = 38 ∨ n = 39 ∨ n = 40 by omega) with rfl | rfl | rfl | rfl | rfl | rfl | rfl | rfl | rfl | rfl | rfl | rfl | rfl | rfl | rfl | rfl | rfl | rfl | rfl | rfl | rfl | rfl | rfl | rfl | rfl | rfl | rfl | rfl | rfl | rfl | rfl | rfl | rfl | rfl | rfl | rfl | rfl | rfl | rfl | rfl
  · exact okS_1
  · exact okS_2
  · exact okS_3
  · exact okS_4
  · exact okS_5
  · exact okS_6
  · exact okS_7
  · exact okS_8
  · exact okS_9
  · exact okS_10
  · exact okS_11
  · exact okS_12
  · exact okS_13
  · exact okS_14
  · exact okS_15
  · exact okS_16
  · exact okS_17
  · exact okS_18
  · exact okS_19
  · exact okS_20
  · exact okS_21
  · exact okS_22
  · exact okS_23
  · exact okS_24
  · exact okS_25
  · exact okS_26
  · exact okS_27
  · exact okS_28
  · exact okS_29
  · exact okS_30
  · exact okS_31
  · exact okS_32
  · exact okS_33
  · exact okS_34
  · exact okS_35
  · exact okS_36
  · exact okS_37
  · exact okS_38
  · exact okS_39
  · exact okS_40
theorem same_threes {n : Int} (h1 : 1 ≤ n) (h2 : n ≤ 40) (g : G) : ∃ d, m_threes [.int n] g = .ok d g ∧ m__law_threes [.int n] g = .ok d g ∧ lay 2 d := by
  obtain ⟨ks, e, hk, _, _, _⟩ := m_threes_eq h1 (by omega) g
  refine ⟨_, e, ?_, ?_⟩
  · rw [m__law_threes_eq h1 h2, ← eqDs_of _ _ (okS_all h1 h2), hk]
  · refine lay_list fun x hx => ?_
    rw [← sortD_eq] at hx
    have := (List.mergeSort_perm _ _).mem_iff.mp hx
    obtain ⟨k, _, rfl⟩ := List.mem_map.mp this
    exact lay_tDI
end K46
namespace K46
open PySem
open PySem.Spec
open PyProof.Rows
open L2
open DL
variable {g : G}
def nrB (a b k : Int) : Int := (2 * a * k + b) / (2 * b)
def gpB (a b k : Int) : Int := if a * k - nrB a b k * b < 0 then -(a * k - nrB a b k * b) else a * k - nrB a b k * b
abbrev A46 := List (List Int) × Option (Int × Int)
def bet (a b k : Int) : Option (Int × Int) → Bool
  | none => true
  | some p => decide (gpB a b k * p.2 < p.1 * k)
def stB (a b : Int) (c : A46) (k : Int) : A46 := if bet a b k c.2 = true then (c.1 ++ [[nrB a b k, k]], some (gpB a b k, k)) else c
def bD : Option (Int × Int) → D
  | none => .none
  | some p => dP p
def okA (i : Nat) (c : A46) : Prop := c.1.length ≤ i ∧ ∀ p, c.2 = some p → 1 ≤ p.2 ∧ p.2 ≤ 60
theorem okA_step {a b k : Int} {i : Nat} {c : A46} (h : okA i c) (hk : 1 ≤ k ∧ k ≤ 60) : okA (i + 1) (stB a b c k) := by
  unfold stB
  split
  · refine ⟨by show (c.1 ++ _).length ≤ _; rw [List.length_append]; have := h.1; simp only [List.length_cons, List.length_nil]; omega, fun p hp => ?_⟩
    cases hp
    exact hk
  · exact ⟨by have := h.1; omega, h.2⟩
theorem mulB {a k : Int} (ha : 0 ≤ a ∧ a ≤ 100000) (hk : 1 ≤ k ∧ k ≤ 60) : 0 ≤ a * k ∧ a * k ≤ 6000000 := by
  have h1 := Int.mul_le_mul_of_nonneg_left hk.2 ha.1
  have h2 := Int.mul_nonneg ha.1 (show 0 ≤ k by omega)
  omega
theorem test_best {a b m k : Int} {c : A46} {i : Nat} {x3 x6 : SV} (h : okA i c) (hk : 1 ≤ k ∧ k ≤ 60) : tOrF (tVal (eIsN (eV 4))) (tVal (eBin opLt (eBin opMul (eV 7) (eBin opIx (eV 4) (eC (.int 1)))) (eBin opMul (eBin opIx (eV 4) (eC (.int 0))) (eV 5)))) [.d (.int a), .d (.int b), .d (.int m), x3, .d (bD c.2), .d (.int k), x6, .d (.int (gpB a b k))] g = .ok (bet a b k c.2) g := by
  obtain ⟨_, h2⟩ := h
  cases e : c.2 with
  | none => simp (disch := omega) only [bD, bet, eV_ap, eC_ap, eBin_ap, eNeg_ap, tVal_ap, eIsN_ap, eNotN_ap, eChain_ap, tAndF_ap, tOrF_ap, tNotF_ap, tTru_ap, eAnd_ap, eOr_ap, eNot_ap, eIf_ap, aNil_ap, aCons_ap, eTup_ap, eLst_ap, oNone_ap, oSome_ap, eSl_ap, eCall_ap, iLst_ap, iTpl_ap, iRan2_apN, eOf_ap, oLst_ap, oCat_ap, oRep_ap, oSl_ap, oList_ap, oComp_ap, tYesF_ap, sNil_ap, sSeq_th, sBrk_ap, sCnt_ap, sExpr_ap, sRet_ap, sRetN_ap, sIf_ap, sSet_ap, sSetO_ap, sAsg_ap, sPar_ap, sPar3_ap, sAug_ap, sApp_ap, sExt_ap, sSetIx_ap, sFrz_ap, eIxO_ap, eLenO_ap, eIxA_ap, eLenA_ap, vOf_ap, vCons_ap, vOwn_ap, vOwn2_ap, sTup_ap, iSeq_ap, sRaise_ap, sTry_ap, eExF_ap, tIfF_ap, eRev_ap, eRevA_ap, eRevF_ap, th_nx, th_rt, th_bk, th_ct, th_exc, bind_ok, bind_exc, go_ok, go_exc, opAdd_int, opSub_int, opMul_a, opMul_b, opDiv_pos, opDiv_wide, opMod_pos, opI_int, opEq_int, opNe_int, opEq_bool, opNe_bool, atI_0, atI_1, atI_2, atI_3, opIx_list, opIx_tuple, iRan1_ap, bLen_list, bLen_tuple, bInt_int, bAbs_int, bName, bNil, bCons, bTup, List.getElem?_cons_zero, List.getElem?_cons_succ, List.set_cons_zero, List.set_cons_succ, List.length_cons, List.length_nil, noTok, if_true, if_false, decide_true, decide_false, Bool.not_true, Bool.not_false, setAll, List.map_cons, List.map_nil, truD, Bool.true_eq_false, Bool.false_eq_true, Option.bind_some, true_and, and_true, List.replicate, startR, List.cons_append, List.nil_append, Nat.sub_self, reduceIte, ↓reduceIte, DL.isNon, LIM_eq, and_self, List.map_append, List.length_map, Int.toNat_natCast, Nat.zero_le, Nat.reduceLeDiff, Int.reduceNeg, Int.reduceLE, Int.reduceLT, Int.zero_add, ran1_int, ran2_int, noEx, eq_self, dI, dP, dPs]
  | some p =>
    obtain ⟨h3, h4⟩ := h2 p e
    obtain ⟨p1, p2⟩ := p
    simp only at h3 h4
    rw [show bet a b k (some (p1, p2)) = decide (gpB a b k * p2 < p1 * k) from rfl]
    generalize gpB a b k = G1
    by_cases hc : G1 * p2 < p1 * k
    · simp (disch := omega) only [bD, dP, hc, eV_ap, eC_ap, eBin_ap, eNeg_ap, tVal_ap, eIsN_ap, eNotN_ap, eChain_ap, tAndF_ap, tOrF_ap, tNotF_ap, tTru_ap, eAnd_ap, eOr_ap, eNot_ap, eIf_ap, aNil_ap, aCons_ap, eTup_ap, eLst_ap, oNone_ap, oSome_ap, eSl_ap, eCall_ap, iLst_ap, iTpl_ap, iRan2_apN, eOf_ap, oLst_ap, oCat_ap, oRep_ap, oSl_ap, oList_ap, oComp_ap, tYesF_ap, sNil_ap, sSeq_th, sBrk_ap, sCnt_ap, sExpr_ap, sRet_ap, sRetN_ap, sIf_ap, sSet_ap, sSetO_ap, sAsg_ap, sPar_ap, sPar3_ap, sAug_ap, sApp_ap, sExt_ap, sSetIx_ap, sFrz_ap, eIxO_ap, eLenO_ap, eIxA_ap, eLenA_ap, vOf_ap, vCons_ap, vOwn_ap, vOwn2_ap, sTup_ap, iSeq_ap, sRaise_ap, sTry_ap, eExF_ap, tIfF_ap, eRev_ap, eRevA_ap, eRevF_ap, th_nx, th_rt, th_bk, th_ct, th_exc, bind_ok, bind_exc, go_ok, go_exc, opAdd_int, opSub_int, opMul_a, opMul_b, opDiv_pos, opDiv_wide, opMod_pos, opI_int, opEq_int, opNe_int, opEq_bool, opNe_bool, atI_0, atI_1, atI_2, atI_3, opIx_list, opIx_tuple, iRan1_ap, bLen_list, bLen_tuple, bInt_int, bAbs_int, bName, bNil, bCons, bTup, List.getElem?_cons_zero, List.getElem?_cons_succ, List.set_cons_zero, List.set_cons_succ, List.length_cons, List.length_nil, noTok, if_true, if_false, decide_true, decide_false, Bool.not_true, Bool.not_false, setAll, List.map_cons, List.map_nil, truD, Bool.true_eq_false, Bool.false_eq_true, Option.bind_some, true_and, and_true, List.replicate, startR, List.cons_append, List.nil_append, Nat.sub_self, reduceIte, ↓reduceIte, DL.isNon, LIM_eq, and_self, List.map_append, List.length_map, Int.toNat_natCast, Nat.zero_le, Nat.reduceLeDiff, Int.reduceNeg, Int.reduceLE, Int.reduceLT, Int.zero_add, ran1_int, ran2_int, noEx, eq_self, dI, dP, dPs]
    · simp (disch := omega) only [bD, dP, hc, eV_ap, eC_ap, eBin_ap, eNeg_ap, tVal_ap, eIsN_ap, eNotN_ap, eChain_ap, tAndF_ap, tOrF_ap, tNotF_ap, tTru_ap, eAnd_ap, eOr_ap, eNot_ap, eIf_ap, aNil_ap, aCons_ap, eTup_ap, eLst_ap, oNone_ap, oSome_ap, eSl_ap, eCall_ap, iLst_ap, iTpl_ap, iRan2_apN, eOf_ap, oLst_ap, oCat_ap, oRep_ap, oSl_ap, oList_ap, oComp_ap, tYesF_ap, sNil_ap, sSeq_th, sBrk_ap, sCnt_ap, sExpr_ap, sRet_ap, sRetN_ap, sIf_ap, sSet_ap, sSetO_ap, sAsg_ap, sPar_ap, sPar3_ap, sAug_ap, sApp_ap, sExt_ap, sSetIx_ap, sFrz_ap, eIxO_ap, eLenO_ap, eIxA_ap, eLenA_ap, vOf_ap, vCons_ap, vOwn_ap, vOwn2_ap, sTup_ap, iSeq_ap, sRaise_ap, sTry_ap, eExF_ap, tIfF_ap, eRev_ap, eRevA_ap, eRevF_ap, th_nx, th_rt, th_bk, th_ct, th_exc, bind_ok, bind_exc, go_ok, go_exc, opAdd_int, opSub_int, opMul_a, opMul_b, opDiv_pos, opDiv_wide, opMod_pos, opI_int, opEq_int, opNe_int, opEq_bool, opNe_bool, atI_0, atI_1, atI_2, atI_3, opIx_list, opIx_tuple, iRan1_ap, bLen_list, bLen_tuple, bInt_int, bAbs_int, bName, bNil, bCons, bTup, List.getElem?_cons_zero, List.getElem?_cons_succ, List.set_cons_zero, List.set_cons_succ, List.length_cons, List.length_nil, noTok, if_true, if_false, decide_true, decide_false, Bool.not_true, Bool.not_false, setAll, List.map_cons, List.map_nil, truD, Bool.true_eq_false, Bool.false_eq_true, Option.bind_some, true_and, and_true, List.replicate, startR, List.cons_append, List.nil_append, Nat.sub_self, reduceIte, ↓reduceIte, DL.isNon, LIM_eq, and_self, List.map_append, List.length_map, Int.toNat_natCast, Nat.zero_le, Nat.reduceLeDiff, Int.reduceNeg, Int.reduceLE, Int.reduceLT, Int.zero_add, ran1_int, ran2_int, noEx, eq_self, dI, dP, dPs]
theorem best_row {a b m k : Int} {c : A46} {i : Nat} {y5 y6 y7 : SV} (h : okA i c) (hi : i ≤ 1000) (ha : 0 ≤ a ∧ a ≤ 100000) (hb : 1 ≤ b ∧ b ≤ 100000) (hk : 1 ≤ k ∧ k ≤ 60) :
    ∃ z6 z7, B_best_parts_2 [.d (.int a), .d (.int b), .d (.int m), .own (c.1.map tDI), .d (bD c.2), .d (.int k), y6, y7] g = .nx [.d (.int a), .d (.int b), .d (.int m), .own ((stB a b c k).1.map tDI), .d (bD (stB a b c k).2), .d (.int k), z6, z7] g := by
  have hm := mulB ha hk
  refine ⟨.d (.int (nrB a b k)), .d (.int (gpB a b k)), ?_⟩
  have s3 : S_best_parts_3 [.d (.int a), .d (.int b), .d (.int m), .own (c.1.map tDI), .d (bD c.2), .d (.int k), y6, y7] g = .nx [.d (.int a), .d (.int b), .d (.int m), .own (c.1.map tDI), .d (bD c.2), .d (.int k), .d (.int (nrB a b k)), y7] g := by
    unfold nrB
    simp (disch := omega) only [S_best_parts_3, eV_ap, eC_ap, eBin_ap, eNeg_ap, tVal_ap, eIsN_ap, eNotN_ap, eChain_ap, tAndF_ap, tOrF_ap, tNotF_ap, tTru_ap, eAnd_ap, eOr_ap, eNot_ap, eIf_ap, aNil_ap, aCons_ap, eTup_ap, eLst_ap, oNone_ap, oSome_ap, eSl_ap, eCall_ap, iLst_ap, iTpl_ap, iRan2_apN, eOf_ap, oLst_ap, oCat_ap, oRep_ap, oSl_ap, oList_ap, oComp_ap, tYesF_ap, sNil_ap, sSeq_th, sBrk_ap, sCnt_ap, sExpr_ap, sRet_ap, sRetN_ap, sIf_ap, sSet_ap, sSetO_ap, sAsg_ap, sPar_ap, sPar3_ap, sAug_ap, sApp_ap, sExt_ap, sSetIx_ap, sFrz_ap, eIxO_ap, eLenO_ap, eIxA_ap, eLenA_ap, vOf_ap, vCons_ap, vOwn_ap, vOwn2_ap, sTup_ap, iSeq_ap, sRaise_ap, sTry_ap, eExF_ap, tIfF_ap, eRev_ap, eRevA_ap, eRevF_ap, th_nx, th_rt, th_bk, th_ct, th_exc, bind_ok, bind_exc, go_ok, go_exc, opAdd_int, opSub_int, opMul_a, opMul_b, opDiv_pos, opDiv_wide, opMod_pos, opI_int, opEq_int, opNe_int, opEq_bool, opNe_bool, atI_0, atI_1, atI_2, atI_3, opIx_list, opIx_tuple, iRan1_ap, bLen_list, bLen_tuple, bInt_int, bAbs_int, bName, bNil, bCons, bTup, List.getElem?_cons_zero, List.getElem?_cons_succ, List.set_cons_zero, List.set_cons_succ, List.length_cons, List.length_nil, noTok, if_true, if_false, decide_true, decide_false, Bool.not_true, Bool.not_false, setAll, List.map_cons, List.map_nil, truD, Bool.true_eq_false, Bool.false_eq_true, Option.bind_some, true_and, and_true, List.replicate, startR, List.cons_append, List.nil_append, Nat.sub_self, reduceIte, ↓reduceIte, DL.isNon, LIM_eq, and_self, List.map_append, List.length_map, Int.toNat_natCast, Nat.zero_le, Nat.reduceLeDiff, Int.reduceNeg, Int.reduceLE, Int.reduceLT, Int.zero_add, ran1_int, ran2_int, noEx, eq_self, dI, dP, dPs]
  have s4 : S_best_parts_4 [.d (.int a), .d (.int b), .d (.int m), .own (c.1.map tDI), .d (bD c.2), .d (.int k), .d (.int (nrB a b k)), y7] g = .nx [.d (.int a), .d (.int b), .d (.int m), .own (c.1.map tDI), .d (bD c.2), .d (.int k), .d (.int (nrB a b k)), .d (.int (gpB a b k))] g := by
    unfold gpB
    generalize nrB a b k = N
    simp (disch := omega) only [S_best_parts_4, eV_ap, eC_ap, eBin_ap, eNeg_ap, tVal_ap, eIsN_ap, eNotN_ap, eChain_ap, tAndF_ap, tOrF_ap, tNotF_ap, tTru_ap, eAnd_ap, eOr_ap, eNot_ap, eIf_ap, aNil_ap, aCons_ap, eTup_ap, eLst_ap, oNone_ap, oSome_ap, eSl_ap, eCall_ap, iLst_ap, iTpl_ap, iRan2_apN, eOf_ap, oLst_ap, oCat_ap, oRep_ap, oSl_ap, oList_ap, oComp_ap, tYesF_ap, sNil_ap, sSeq_th, sBrk_ap, sCnt_ap, sExpr_ap, sRet_ap, sRetN_ap, sIf_ap, sSet_ap, sSetO_ap, sAsg_ap, sPar_ap, sPar3_ap, sAug_ap, sApp_ap, sExt_ap, sSetIx_ap, sFrz_ap, eIxO_ap, eLenO_ap, eIxA_ap, eLenA_ap, vOf_ap, vCons_ap, vOwn_ap, vOwn2_ap, sTup_ap, iSeq_ap, sRaise_ap, sTry_ap, eExF_ap, tIfF_ap, eRev_ap, eRevA_ap, eRevF_ap, th_nx, th_rt, th_bk, th_ct, th_exc, bind_ok, bind_exc, go_ok, go_exc, opAdd_int, opSub_int, opMul_a, opMul_b, opDiv_pos, opDiv_wide, opMod_pos, opI_int, opEq_int, opNe_int, opEq_bool, opNe_bool, atI_0, atI_1, atI_2, atI_3, opIx_list, opIx_tuple, iRan1_ap, bLen_list, bLen_tuple, bInt_int, bAbs_int, bName, bNil, bCons, bTup, List.getElem?_cons_zero, List.getElem?_cons_succ, List.set_cons_zero, List.set_cons_succ, List.length_cons, List.length_nil, noTok, if_true, if_false, decide_true, decide_false, Bool.not_true, Bool.not_false, setAll, List.map_cons, List.map_nil, truD, Bool.true_eq_false, Bool.false_eq_true, Option.bind_some, true_and, and_true, List.replicate, startR, List.cons_append, List.nil_append, Nat.sub_self, reduceIte, ↓reduceIte, DL.isNon, LIM_eq, and_self, List.map_append, List.length_map, Int.toNat_natCast, Nat.zero_le, Nat.reduceLeDiff, Int.reduceNeg, Int.reduceLE, Int.reduceLT, Int.zero_add, ran1_int, ran2_int, noEx, eq_self, dI, dP, dPs]
  refine seq_nx s3 (seq_nx s4 ?_)
  unfold S_best_parts_5
  rw [sIf_ap, test_best h hk, go_ok]
  unfold stB
  by_cases hc : bet a b k c.2 = true
  · rw [if_pos hc, if_pos hc]
    have hl : (c.1.map tDI).length < 1000000 := by rw [List.length_map]; have := h.1; omega
    generalize hG : gpB a b k = G1
    generalize hN : nrB a b k = N1
    rw [List.map_append]
    generalize c.1.map tDI = L at *
    show _ = SO.nx [.d (.int a), .d (.int b), .d (.int m), .own (L ++ [PyData.tuple [.int N1, .int k]]), .d (.tuple [.int G1, .int k]), .d (.int k), .d (.int N1), .d (.int G1)] g
    simp (disch := omega) only [S_best_parts_6, S_best_parts_7, hl, eV_ap, eC_ap, eBin_ap, eNeg_ap, tVal_ap, eIsN_ap, eNotN_ap, eChain_ap, tAndF_ap, tOrF_ap, tNotF_ap, tTru_ap, eAnd_ap, eOr_ap, eNot_ap, eIf_ap, aNil_ap, aCons_ap, eTup_ap, eLst_ap, oNone_ap, oSome_ap, eSl_ap, eCall_ap, iLst_ap, iTpl_ap, iRan2_apN, eOf_ap, oLst_ap, oCat_ap, oRep_ap, oSl_ap, oList_ap, oComp_ap, tYesF_ap, sNil_ap, sSeq_th, sBrk_ap, sCnt_ap, sExpr_ap, sRet_ap, sRetN_ap, sIf_ap, sSet_ap, sSetO_ap, sAsg_ap, sPar_ap, sPar3_ap, sAug_ap, sApp_ap, sExt_ap, sSetIx_ap, sFrz_ap, eIxO_ap, eLenO_ap, eIxA_ap, eLenA_ap, vOf_ap, vCons_ap, vOwn_ap, vOwn2_ap, sTup_ap, iSeq_ap, sRaise_ap, sTry_ap, eExF_ap, tIfF_ap, eRev_ap, eRevA_ap, eRevF_ap, th_nx, th_rt, th_bk, th_ct, th_exc, bind_ok, bind_exc, go_ok, go_exc, opAdd_int, opSub_int, opMul_a, opMul_b, opDiv_pos, opDiv_wide, opMod_pos, opI_int, opEq_int, opNe_int, opEq_bool, opNe_bool, atI_0, atI_1, atI_2, atI_3, opIx_list, opIx_tuple, iRan1_ap, bLen_list, bLen_tuple, bInt_int, bAbs_int, bName, bNil, bCons, bTup, List.getElem?_cons_zero, List.getElem?_cons_succ, List.set_cons_zero, List.set_cons_succ, List.length_cons, List.length_nil, noTok, if_true, if_false, decide_true, decide_false, Bool.not_true, Bool.not_false, setAll, List.map_cons, List.map_nil, truD, Bool.true_eq_false, Bool.false_eq_true, Option.bind_some, true_and, and_true, List.replicate, startR, List.cons_append, List.nil_append, Nat.sub_self, reduceIte, ↓reduceIte, DL.isNon, LIM_eq, and_self, List.map_append, List.length_map, Int.toNat_natCast, Nat.zero_le, Nat.reduceLeDiff, Int.reduceNeg, Int.reduceLE, Int.reduceLT, Int.zero_add, ran1_int, ran2_int, noEx, eq_self, dI, dP, dPs]
  · rw [if_neg hc, if_neg hc]
    rfl
theorem near_eq {a b k : Int} (hb : 1 ≤ b) : nrB a b k = if a * k - a * k / b * b < (a * k / b + 1) * b - a * k then a * k / b else a * k / b + 1 := by
  unfold nrB
  have e : 2 * a * k + b = 2 * (a * k) + b := by rw [Int.mul_assoc]
  rw [e]
  generalize a * k = A
  have h1 : A / b * b ≤ A := Int.ediv_mul_le A (by omega)
  have h2 : A < (A / b + 1) * b := by
    have := Int.lt_ediv_add_one_mul_self A (show 0 < b by omega)
    exact this
  generalize A / b = q at *
  have e2 : (q + 1) * b = q * b + b := by rw [Int.add_mul, Int.one_mul]
  rw [e2] at h2 ⊢
  split
  · refine Int.le_antisymm ?_ ?_
    · refine Int.lt_add_one_iff.mp ((Int.ediv_lt_iff_lt_mul (by omega)).mpr ?_)
      have : (q + 1) * (2 * b) = 2 * (q * b) + 2 * b := by grind
      omega
    · refine (Int.le_ediv_iff_mul_le (by omega)).mpr ?_
      have : q * (2 * b) = 2 * (q * b) := by grind
      omega
  · refine Int.le_antisymm ?_ ?_
    · refine Int.lt_add_one_iff.mp ((Int.ediv_lt_iff_lt_mul (by omega)).mpr ?_)
      have : (q + 1 + 1) * (2 * b) = 2 * (q * b) + 4 * b := by grind
      omega
    · refine (Int.le_ediv_iff_mul_le (by omega)).mpr ?_
      have : (q + 1) * (2 * b) = 2 * (q * b) + 2 * b := by grind
      omega
theorem gap_eq {a b k : Int} : (if nrB a b k * b - a * k < 0 then -(nrB a b k * b - a * k) else nrB a b k * b - a * k) = gpB a b k := by
  unfold gpB
  generalize nrB a b k * b = X
  generalize a * k = Y
  split <;> split <;> omega
theorem test_lbest {a b m k : Int} {c : A46} {i : Nat} {x3 x6 x7 : SV} (h : okA i c) (hk : 1 ≤ k ∧ k ≤ 60) : tOrF (tVal (eIsN (eV 4))) (tVal (eBin opLt (eBin opMul (eV 8) (eBin opIx (eV 4) (eC (.int 1)))) (eBin opMul (eBin opIx (eV 4) (eC (.int 0))) (eV 5)))) [.d (.int a), .d (.int b), .d (.int m), x3, .d (bD c.2), .d (.int k), x6, x7, .d (.int (gpB a b k))] g = .ok (bet a b k c.2) g := by
  obtain ⟨_, h2⟩ := h
  cases e : c.2 with
  | none => simp (disch := omega) only [bD, bet, eV_ap, eC_ap, eBin_ap, eNeg_ap, tVal_ap, eIsN_ap, eNotN_ap, eChain_ap, tAndF_ap, tOrF_ap, tNotF_ap, tTru_ap, eAnd_ap, eOr_ap, eNot_ap, eIf_ap, aNil_ap, aCons_ap, eTup_ap, eLst_ap, oNone_ap, oSome_ap, eSl_ap, eCall_ap, iLst_ap, iTpl_ap, iRan2_apN, eOf_ap, oLst_ap, oCat_ap, oRep_ap, oSl_ap, oList_ap, oComp_ap, tYesF_ap, sNil_ap, sSeq_th, sBrk_ap, sCnt_ap, sExpr_ap, sRet_ap, sRetN_ap, sIf_ap, sSet_ap, sSetO_ap, sAsg_ap, sPar_ap, sPar3_ap, sAug_ap, sApp_ap, sExt_ap, sSetIx_ap, sFrz_ap, eIxO_ap, eLenO_ap, eIxA_ap, eLenA_ap, vOf_ap, vCons_ap, vOwn_ap, vOwn2_ap, sTup_ap, iSeq_ap, sRaise_ap, sTry_ap, eExF_ap, tIfF_ap, eRev_ap, eRevA_ap, eRevF_ap, th_nx, th_rt, th_bk, th_ct, th_exc, bind_ok, bind_exc, go_ok, go_exc, opAdd_int, opSub_int, opMul_a, opMul_b, opDiv_pos, opDiv_wide, opMod_pos, opI_int, opEq_int, opNe_int, opEq_bool, opNe_bool, atI_0, atI_1, atI_2, atI_3, opIx_list, opIx_tuple, iRan1_ap, bLen_list, bLen_tuple, bInt_int, bAbs_int, bName, bNil, bCons, bTup, List.getElem?_cons_zero, List.getElem?_cons_succ, List.set_cons_zero, List.set_cons_succ, List.length_cons, List.length_nil, noTok, if_true, if_false, decide_true, decide_false, Bool.not_true, Bool.not_false, setAll, List.map_cons, List.map_nil, truD, Bool.true_eq_false, Bool.false_eq_true, Option.bind_some, true_and, and_true, List.replicate, startR, List.cons_append, List.nil_append, Nat.sub_self, reduceIte, ↓reduceIte, DL.isNon, LIM_eq, and_self, List.map_append, List.length_map, Int.toNat_natCast, Nat.zero_le, Nat.reduceLeDiff, Int.reduceNeg, Int.reduceLE, Int.reduceLT, Int.zero_add, ran1_int, ran2_int, noEx, eq_self, dI, dP, dPs]
  | some p =>
    obtain ⟨h3, h4⟩ := h2 p e
    obtain ⟨p1, p2⟩ := p
    simp only at h3 h4
    rw [show bet a b k (some (p1, p2)) = decide (gpB a b k * p2 < p1 * k) from rfl]
    generalize gpB a b k = G1
    by_cases hc : G1 * p2 < p1 * k
    · simp (disch := omega) only [bD, dP, hc, eV_ap, eC_ap, eBin_ap, eNeg_ap, tVal_ap, eIsN_ap, eNotN_ap, eChain_ap, tAndF_ap, tOrF_ap, tNotF_ap, tTru_ap, eAnd_ap, eOr_ap, eNot_ap, eIf_ap, aNil_ap, aCons_ap, eTup_ap, eLst_ap, oNone_ap, oSome_ap, eSl_ap, eCall_ap, iLst_ap, iTpl_ap, iRan2_apN, eOf_ap, oLst_ap, oCat_ap, oRep_ap, oSl_ap, oList_ap, oComp_ap, tYesF_ap, sNil_ap, sSeq_th, sBrk_ap, sCnt_ap, sExpr_ap, sRet_ap, sRetN_ap, sIf_ap, sSet_ap, sSetO_ap, sAsg_ap, sPar_ap, sPar3_ap, sAug_ap, sApp_ap, sExt_ap, sSetIx_ap, sFrz_ap, eIxO_ap, eLenO_ap, eIxA_ap, eLenA_ap, vOf_ap, vCons_ap, vOwn_ap, vOwn2_ap, sTup_ap, iSeq_ap, sRaise_ap, sTry_ap, eExF_ap, tIfF_ap, eRev_ap, eRevA_ap, eRevF_ap, th_nx, th_rt, th_bk, th_ct, th_exc, bind_ok, bind_exc, go_ok, go_exc, opAdd_int, opSub_int, opMul_a, opMul_b, opDiv_pos, opDiv_wide, opMod_pos, opI_int, opEq_int, opNe_int, opEq_bool, opNe_bool, atI_0, atI_1, atI_2, atI_3, opIx_list, opIx_tuple, iRan1_ap, bLen_list, bLen_tuple, bInt_int, bAbs_int, bName, bNil, bCons, bTup, List.getElem?_cons_zero, List.getElem?_cons_succ, List.set_cons_zero, List.set_cons_succ, List.length_cons, List.length_nil, noTok, if_true, if_false, decide_true, decide_false, Bool.not_true, Bool.not_false, setAll, List.map_cons, List.map_nil, truD, Bool.true_eq_false, Bool.false_eq_true, Option.bind_some, true_and, and_true, List.replicate, startR, List.cons_append, List.nil_append, Nat.sub_self, reduceIte, ↓reduceIte, DL.isNon, LIM_eq, and_self, List.map_append, List.length_map, Int.toNat_natCast, Nat.zero_le, Nat.reduceLeDiff, Int.reduceNeg, Int.reduceLE, Int.reduceLT, Int.zero_add, ran1_int, ran2_int, noEx, eq_self, dI, dP, dPs]
    · simp (disch := omega) only [bD, dP, hc, eV_ap, eC_ap, eBin_ap, eNeg_ap, tVal_ap, eIsN_ap, eNotN_ap, eChain_ap, tAndF_ap, tOrF_ap, tNotF_ap, tTru_ap, eAnd_ap, eOr_ap, eNot_ap, eIf_ap, aNil_ap, aCons_ap, eTup_ap, eLst_ap, oNone_ap, oSome_ap, eSl_ap, eCall_ap, iLst_ap, iTpl_ap, iRan2_apN, eOf_ap, oLst_ap, oCat_ap, oRep_ap, oSl_ap, oList_ap, oComp_ap, tYesF_ap, sNil_ap, sSeq_th, sBrk_ap, sCnt_ap, sExpr_ap, sRet_ap, sRetN_ap, sIf_ap, sSet_ap, sSetO_ap, sAsg_ap, sPar_ap, sPar3_ap, sAug_ap, sApp_ap, sExt_ap, sSetIx_ap, sFrz_ap, eIxO_ap, eLenO_ap, eIxA_ap, eLenA_ap, vOf_ap, vCons_ap, vOwn_ap, vOwn2_ap, sTup_ap, iSeq_ap, sRaise_ap, sTry_ap, eExF_ap, tIfF_ap, eRev_ap, eRevA_ap, eRevF_ap, th_nx, th_rt, th_bk, th_ct, th_exc, bind_ok, bind_exc, go_ok, go_exc, opAdd_int, opSub_int, opMul_a, opMul_b, opDiv_pos, opDiv_wide, opMod_pos, opI_int, opEq_int, opNe_int, opEq_bool, opNe_bool, atI_0, atI_1, atI_2, atI_3, opIx_list, opIx_tuple, iRan1_ap, bLen_list, bLen_tuple, bInt_int, bAbs_int, bName, bNil, bCons, bTup, List.getElem?_cons_zero, List.getElem?_cons_succ, List.set_cons_zero, List.set_cons_succ, List.length_cons, List.length_nil, noTok, if_true, if_false, decide_true, decide_false, Bool.not_true, Bool.not_false, setAll, List.map_cons, List.map_nil, truD, Bool.true_eq_false, Bool.false_eq_true, Option.bind_some, true_and, and_true, List.replicate, startR, List.cons_append, List.nil_append, Nat.sub_self, reduceIte, ↓reduceIte, DL.isNon, LIM_eq, and_self, List.map_append, List.length_map, Int.toNat_natCast, Nat.zero_le, Nat.reduceLeDiff, Int.reduceNeg, Int.reduceLE, Int.reduceLT, Int.zero_add, ran1_int, ran2_int, noEx, eq_self, dI, dP, dPs]
theorem lbest_row {a b m k : Int} {c : A46} {i : Nat} {y5 y6 y7 y8 : SV} (h : okA i c) (hi : i ≤ 1000) (ha : 0 ≤ a ∧ a ≤ 100000) (hb : 1 ≤ b ∧ b ≤ 100000) (hk : 1 ≤ k ∧ k ≤ 60) :
    ∃ z6 z7 z8, B__law_best_2 [.d (.int a), .d (.int b), .d (.int m), .own (c.1.map tDI), .d (bD c.2), .d (.int k), y6, y7, y8] g = .nx [.d (.int a), .d (.int b), .d (.int m), .own ((stB a b c k).1.map tDI), .d (bD (stB a b c k).2), .d (.int k), z6, z7, z8] g := by
  have hm := mulB ha hk
  refine ⟨.d (.int (a * k / b)), .d (.int (nrB a b k)), .d (.int (gpB a b k)), ?_⟩
  have s3 : S__law_best_3 [.d (.int a), .d (.int b), .d (.int m), .own (c.1.map tDI), .d (bD c.2), .d (.int k), y6, y7, y8] g = .nx [.d (.int a), .d (.int b), .d (.int m), .own (c.1.map tDI), .d (bD c.2), .d (.int k), .d (.int (a * k / b)), y7, y8] g := by
    simp (disch := omega) only [S__law_best_3, eV_ap, eC_ap, eBin_ap, eNeg_ap, tVal_ap, eIsN_ap, eNotN_ap, eChain_ap, tAndF_ap, tOrF_ap, tNotF_ap, tTru_ap, eAnd_ap, eOr_ap, eNot_ap, eIf_ap, aNil_ap, aCons_ap, eTup_ap, eLst_ap, oNone_ap, oSome_ap, eSl_ap, eCall_ap, iLst_ap, iTpl_ap, iRan2_apN, eOf_ap, oLst_ap, oCat_ap, oRep_ap, oSl_ap, oList_ap, oComp_ap, tYesF_ap, sNil_ap, sSeq_th, sBrk_ap, sCnt_ap, sExpr_ap, sRet_ap, sRetN_ap, sIf_ap, sSet_ap, sSetO_ap, sAsg_ap, sPar_ap, sPar3_ap, sAug_ap, sApp_ap, sExt_ap, sSetIx_ap, sFrz_ap, eIxO_ap, eLenO_ap, eIxA_ap, eLenA_ap, vOf_ap, vCons_ap, vOwn_ap, vOwn2_ap, sTup_ap, iSeq_ap, sRaise_ap, sTry_ap, eExF_ap, tIfF_ap, eRev_ap, eRevA_ap, eRevF_ap, th_nx, th_rt, th_bk, th_ct, th_exc, bind_ok, bind_exc, go_ok, go_exc, opAdd_int, opSub_int, opMul_a, opMul_b, opDiv_pos, opDiv_wide, opMod_pos, opI_int, opEq_int, opNe_int, opEq_bool, opNe_bool, atI_0, atI_1, atI_2, atI_3, opIx_list, opIx_tuple, iRan1_ap, bLen_list, bLen_tuple, bInt_int, bAbs_int, bName, bNil, bCons, bTup, List.getElem?_cons_zero, List.getElem?_cons_succ, List.set_cons_zero, List.set_cons_succ, List.length_cons, List.length_nil, noTok, if_true, if_false, decide_true, decide_false, Bool.not_true, Bool.not_false, setAll, List.map_cons, List.map_nil, truD, Bool.true_eq_false, Bool.false_eq_true, Option.bind_some, true_and, and_true, List.replicate, startR, List.cons_append, List.nil_append, Nat.sub_self, reduceIte, ↓reduceIte, DL.isNon, LIM_eq, and_self, List.map_append, List.length_map, Int.toNat_natCast, Nat.zero_le, Nat.reduceLeDiff, Int.reduceNeg, Int.reduceLE, Int.reduceLT, Int.zero_add, ran1_int, ran2_int, noEx, eq_self, dI, dP, dPs]
  have s4 : S__law_best_4 [.d (.int a), .d (.int b), .d (.int m), .own (c.1.map tDI), .d (bD c.2), .d (.int k), .d (.int (a * k / b)), y7, y8] g = .nx [.d (.int a), .d (.int b), .d (.int m), .own (c.1.map tDI), .d (bD c.2), .d (.int k), .d (.int (a * k / b)), .d (.int (nrB a b k)), y8] g := by
    rw [near_eq hb.1]
    by_cases hc : a * k - a * k / b * b < (a * k / b + 1) * b - a * k
    · rw [if_pos hc]
      generalize a * k / b = Q at *
      simp (disch := omega) only [S__law_best_4, hc, eV_ap, eC_ap, eBin_ap, eNeg_ap, tVal_ap, eIsN_ap, eNotN_ap, eChain_ap, tAndF_ap, tOrF_ap, tNotF_ap, tTru_ap, eAnd_ap, eOr_ap, eNot_ap, eIf_ap, aNil_ap, aCons_ap, eTup_ap, eLst_ap, oNone_ap, oSome_ap, eSl_ap, eCall_ap, iLst_ap, iTpl_ap, iRan2_apN, eOf_ap, oLst_ap, oCat_ap, oRep_ap, oSl_ap, oList_ap, oComp_ap, tYesF_ap, sNil_ap, sSeq_th, sBrk_ap, sCnt_ap, sExpr_ap, sRet_ap, sRetN_ap, sIf_ap, sSet_ap, sSetO_ap, sAsg_ap, sPar_ap, sPar3_ap, sAug_ap, sApp_ap, sExt_ap, sSetIx_ap, sFrz_ap, eIxO_ap, eLenO_ap, eIxA_ap, eLenA_ap, vOf_ap, vCons_ap, vOwn_ap, vOwn2_ap, sTup_ap, iSeq_ap, sRaise_ap, sTry_ap, eExF_ap, tIfF_ap, eRev_ap, eRevA_ap, eRevF_ap, th_nx, th_rt, th_bk, th_ct, th_exc, bind_ok, bind_exc, go_ok, go_exc, opAdd_int, opSub_int, opMul_a, opMul_b, opDiv_pos, opDiv_wide, opMod_pos, opI_int, opEq_int, opNe_int, opEq_bool, opNe_bool, atI_0, atI_1, atI_2, atI_3, opIx_list, opIx_tuple, iRan1_ap, bLen_list, bLen_tuple, bInt_int, bAbs_int, bName, bNil, bCons, bTup, List.getElem?_cons_zero, List.getElem?_cons_succ, List.set_cons_zero, List.set_cons_succ, List.length_cons, List.length_nil, noTok, if_true, if_false, decide_true, decide_false, Bool.not_true, Bool.not_false, setAll, List.map_cons, List.map_nil, truD, Bool.true_eq_false, Bool.false_eq_true, Option.bind_some, true_and, and_true, List.replicate, startR, List.cons_append, List.nil_append, Nat.sub_self, reduceIte, ↓reduceIte, DL.isNon, LIM_eq, and_self, List.map_append, List.length_map, Int.toNat_natCast, Nat.zero_le, Nat.reduceLeDiff, Int.reduceNeg, Int.reduceLE, Int.reduceLT, Int.zero_add, ran1_int, ran2_int, noEx, eq_self, dI, dP, dPs]
    · rw [if_neg hc]
      generalize a * k / b = Q at *
      simp (disch := omega) only [S__law_best_4, hc, eV_ap, eC_ap, eBin_ap, eNeg_ap, tVal_ap, eIsN_ap, eNotN_ap, eChain_ap, tAndF_ap, tOrF_ap, tNotF_ap, tTru_ap, eAnd_ap, eOr_ap, eNot_ap, eIf_ap, aNil_ap, aCons_ap, eTup_ap, eLst_ap, oNone_ap, oSome_ap, eSl_ap, eCall_ap, iLst_ap, iTpl_ap, iRan2_apN, eOf_ap, oLst_ap, oCat_ap, oRep_ap, oSl_ap, oList_ap, oComp_ap, tYesF_ap, sNil_ap, sSeq_th, sBrk_ap, sCnt_ap, sExpr_ap, sRet_ap, sRetN_ap, sIf_ap, sSet_ap, sSetO_ap, sAsg_ap, sPar_ap, sPar3_ap, sAug_ap, sApp_ap, sExt_ap, sSetIx_ap, sFrz_ap, eIxO_ap, eLenO_ap, eIxA_ap, eLenA_ap, vOf_ap, vCons_ap, vOwn_ap, vOwn2_ap, sTup_ap, iSeq_ap, sRaise_ap, sTry_ap, eExF_ap, tIfF_ap, eRev_ap, eRevA_ap, eRevF_ap, th_nx, th_rt, th_bk, th_ct, th_exc, bind_ok, bind_exc, go_ok, go_exc, opAdd_int, opSub_int, opMul_a, opMul_b, opDiv_pos, opDiv_wide, opMod_pos, opI_int, opEq_int, opNe_int, opEq_bool, opNe_bool, atI_0, atI_1, atI_2, atI_3, opIx_list, opIx_tuple, iRan1_ap, bLen_list, bLen_tuple, bInt_int, bAbs_int, bName, bNil, bCons, bTup, List.getElem?_cons_zero, List.getElem?_cons_succ, List.set_cons_zero, List.set_cons_succ, List.length_cons, List.length_nil, noTok, if_true, if_false, decide_true, decide_false, Bool.not_true, Bool.not_false, setAll, List.map_cons, List.map_nil, truD, Bool.true_eq_false, Bool.false_eq_true, Option.bind_some, true_and, and_true, List.replicate, startR, List.cons_append, List.nil_append, Nat.sub_self, reduceIte, ↓reduceIte, DL.isNon, LIM_eq, and_self, List.map_append, List.length_map, Int.toNat_natCast, Nat.zero_le, Nat.reduceLeDiff, Int.reduceNeg, Int.reduceLE, Int.reduceLT, Int.zero_add, ran1_int, ran2_int, noEx, eq_self, dI, dP, dPs]
  have s5 : S__law_best_5 [.d (.int a), .d (.int b), .d (.int m), .own (c.1.map tDI), .d (bD c.2), .d (.int k), .d (.int (a * k / b)), .d (.int (nrB a b k)), y8] g = .nx [.d (.int a), .d (.int b), .d (.int m), .own (c.1.map tDI), .d (bD c.2), .d (.int k), .d (.int (a * k / b)), .d (.int (nrB a b k)), .d (.int (gpB a b k))] g := by
    rw [← gap_eq]
    generalize nrB a b k = N
    generalize a * k / b = Q
    simp (disch := omega) only [S__law_best_5, eV_ap, eC_ap, eBin_ap, eNeg_ap, tVal_ap, eIsN_ap, eNotN_ap, eChain_ap, tAndF_ap, tOrF_ap, tNotF_ap, tTru_ap, eAnd_ap, eOr_ap, eNot_ap, eIf_ap, aNil_ap, aCons_ap, eTup_ap, eLst_ap, oNone_ap, oSome_ap, eSl_ap, eCall_ap, iLst_ap, iTpl_ap, iRan2_apN, eOf_ap, oLst_ap, oCat_ap, oRep_ap, oSl_ap, oList_ap, oComp_ap, tYesF_ap, sNil_ap, sSeq_th, sBrk_ap, sCnt_ap, sExpr_ap, sRet_ap, sRetN_ap, sIf_ap, sSet_ap, sSetO_ap, sAsg_ap, sPar_ap, sPar3_ap, sAug_ap, sApp_ap, sExt_ap, sSetIx_ap, sFrz_ap, eIxO_ap, eLenO_ap, eIxA_ap, eLenA_ap, vOf_ap, vCons_ap, vOwn_ap, vOwn2_ap, sTup_ap, iSeq_ap, sRaise_ap, sTry_ap, eExF_ap, tIfF_ap, eRev_ap, eRevA_ap, eRevF_ap, th_nx, th_rt, th_bk, th_ct, th_exc, bind_ok, bind_exc, go_ok, go_exc, opAdd_int, opSub_int, opMul_a, opMul_b, opDiv_pos, opDiv_wide, opMod_pos, opI_int, opEq_int, opNe_int, opEq_bool, opNe_bool, atI_0, atI_1, atI_2, atI_3, opIx_list, opIx_tuple, iRan1_ap, bLen_list, bLen_tuple, bInt_int, bAbs_int, bName, bNil, bCons, bTup, List.getElem?_cons_zero, List.getElem?_cons_succ, List.set_cons_zero, List.set_cons_succ, List.length_cons, List.length_nil, noTok, if_true, if_false, decide_true, decide_false, Bool.not_true, Bool.not_false, setAll, List.map_cons, List.map_nil, truD, Bool.true_eq_false, Bool.false_eq_true, Option.bind_some, true_and, and_true, List.replicate, startR, List.cons_append, List.nil_append, Nat.sub_self, reduceIte, ↓reduceIte, DL.isNon, LIM_eq, and_self, List.map_append, List.length_map, Int.toNat_natCast, Nat.zero_le, Nat.reduceLeDiff, Int.reduceNeg, Int.reduceLE, Int.reduceLT, Int.zero_add, ran1_int, ran2_int, noEx, eq_self, dI, dP, dPs]
  refine seq_nx s3 (seq_nx s4 (seq_nx s5 ?_))
  unfold S__law_best_6
  rw [sIf_ap, test_lbest h hk, go_ok]
  unfold stB
  by_cases hc : bet a b k c.2 = true
  · rw [if_pos hc, if_pos hc]
    have hl : (c.1.map tDI).length < 1000000 := by rw [List.length_map]; have := h.1; omega
    generalize hG : gpB a b k = G1
    generalize hN : nrB a b k = N1
    rw [List.map_append]
    generalize c.1.map tDI = L at *
    generalize a * k / b = Q
    show _ = SO.nx [.d (.int a), .d (.int b), .d (.int m), .own (L ++ [PyData.tuple [.int N1, .int k]]), .d (.tuple [.int G1, .int k]), .d (.int k), .d (.int Q), .d (.int N1), .d (.int G1)] g
    simp (disch := omega) only [S__law_best_7, S__law_best_8, hl, eV_ap, eC_ap, eBin_ap, eNeg_ap, tVal_ap, eIsN_ap, eNotN_ap, eChain_ap, tAndF_ap, tOrF_ap, tNotF_ap, tTru_ap, eAnd_ap, eOr_ap, eNot_ap, eIf_ap, aNil_ap, aCons_ap, eTup_ap, eLst_ap, oNone_ap, oSome_ap, eSl_ap, eCall_ap, iLst_ap, iTpl_ap, iRan2_apN, eOf_ap, oLst_ap, oCat_ap, oRep_ap, oSl_ap, oList_ap, oComp_ap, tYesF_ap, sNil_ap, sSeq_th, sBrk_ap, sCnt_ap, sExpr_ap, sRet_ap, sRetN_ap, sIf_ap, sSet_ap, sSetO_ap, sAsg_ap, sPar_ap, sPar3_ap, sAug_ap, sApp_ap, sExt_ap, sSetIx_ap, sFrz_ap, eIxO_ap, eLenO_ap, eIxA_ap, eLenA_ap, vOf_ap, vCons_ap, vOwn_ap, vOwn2_ap, sTup_ap, iSeq_ap, sRaise_ap, sTry_ap, eExF_ap, tIfF_ap, eRev_ap, eRevA_ap, eRevF_ap, th_nx, th_rt, th_bk, th_ct, th_exc, bind_ok, bind_exc, go_ok, go_exc, opAdd_int, opSub_int, opMul_a, opMul_b, opDiv_pos, opDiv_wide, opMod_pos, opI_int, opEq_int, opNe_int, opEq_bool, opNe_bool, atI_0, atI_1, atI_2, atI_3, opIx_list, opIx_tuple, iRan1_ap, bLen_list, bLen_tuple, bInt_int, bAbs_int, bName, bNil, bCons, bTup, List.getElem?_cons_zero, List.getElem?_cons_succ, List.set_cons_zero, List.set_cons_succ, List.length_cons, List.length_nil, noTok, if_true, if_false, decide_true, decide_false, Bool.not_true, Bool.not_false, setAll, List.map_cons, List.map_nil, truD, Bool.true_eq_false, Bool.false_eq_true, Option.bind_some, true_and, and_true, List.replicate, startR, List.cons_append, List.nil_append, Nat.sub_self, reduceIte, ↓reduceIte, DL.isNon, LIM_eq, and_self, List.map_append, List.length_map, Int.toNat_natCast, Nat.zero_le, Nat.reduceLeDiff, Int.reduceNeg, Int.reduceLE, Int.reduceLT, Int.zero_add, ran1_int, ran2_int, noEx, eq_self, dI, dP, dPs]
  · rw [if_neg hc, if_neg hc]
    rfl
theorem best_eq {a b m : Int} (ha : 0 ≤ a ∧ a ≤ 100000) (hb : 1 ≤ b ∧ b ≤ 100000) (hm : 1 ≤ m ∧ m ≤ 60) (g : G) : ∃ L : List (List Int), m_best_parts [.int a, .int b, .int m] g = .ok (.list (L.map tDI)) g ∧ m__law_best [.int a, .int b, .int m] g = .ok (.list (L.map tDI)) g := by
  have hI : ∀ k ∈ fromT 1 (m + 1), 1 ≤ k ∧ k ≤ 60 := fun k hk => by have := mem_fromT hk; omega
  obtain ⟨ρ1, ⟨y5, y6, y7, h1, rfl⟩, hw1⟩ := forL_fold (g := g) PyData.int (fun i (c : A46) ρ => ∃ y5 y6 y7, okA i c ∧ ρ = [.d (.int a), .d (.int b), .d (.int m), .own (c.1.map tDI), .d (bD c.2), y5, y6, y7]) (stB a b) (b := bName 5) (f := B_best_parts_2) (fromT 1 (m + 1)) 0 ([], none) [.d (.int a), .d (.int b), .d (.int m), .own [], .d .none, .un, .un, .un]
    ⟨_, _, _, ⟨Nat.zero_le _, fun p hp => by cases hp⟩, rfl⟩ (by
      rintro k hk i c ρ i1 i2 ⟨y5, y6, y7, h, rfl⟩
      rw [len_fromT] at i2
      obtain ⟨z6, z7, e⟩ := best_row (g := g) (m := m) (y5 := y5) (y6 := y6) (y7 := y7) h (by omega) ha hb (hI k hk)
      exact ⟨_, _, rfl, e, _, _, _, okA_step h (hI k hk), rfl⟩)
  obtain ⟨ρ2, ⟨x5, x6, x7, x8, h2, rfl⟩, hw2⟩ := forL_fold (g := g) PyData.int (fun i (c : A46) ρ => ∃ y5 y6 y7 y8, okA i c ∧ ρ = [.d (.int a), .d (.int b), .d (.int m), .own (c.1.map tDI), .d (bD c.2), y5, y6, y7, y8]) (stB a b) (b := bName 5) (f := B__law_best_2) (fromT 1 (m + 1)) 0 ([], none) [.d (.int a), .d (.int b), .d (.int m), .own [], .d .none, .un, .un, .un, .un]
    ⟨_, _, _, _, ⟨Nat.zero_le _, fun p hp => by cases hp⟩, rfl⟩ (by
      rintro k hk i c ρ i1 i2 ⟨y5, y6, y7, y8, h, rfl⟩
      rw [len_fromT] at i2
      obtain ⟨z6, z7, z8, e⟩ := lbest_row (g := g) (m := m) (y5 := y5) (y6 := y6) (y7 := y7) (y8 := y8) h (by omega) ha hb (hI k hk)
      exact ⟨_, _, rfl, e, _, _, _, _, okA_step h (hI k hk), rfl⟩)
  generalize ((fromT 1 (m + 1)).foldl (stB a b) ([], none)) = c at *
  refine ⟨c.1, ?_, ?_⟩
  · have hi : iRan2 (aCons (eC (.int 1)) (aCons (eBin opAdd (eV 2) (eC (.int 1))) aNil)) [.d (.int a), .d (.int b), .d (.int m), .own [], .d .none, .un, .un, .un] g = .ok ((fromT 1 (m + 1)).map .int) g := by
      rw [← upTo_fromT]
      simp (disch := omega) only [eV_ap, eC_ap, eBin_ap, eNeg_ap, tVal_ap, eIsN_ap, eNotN_ap, eChain_ap, tAndF_ap, tOrF_ap, tNotF_ap, tTru_ap, eAnd_ap, eOr_ap, eNot_ap, eIf_ap, aNil_ap, aCons_ap, eTup_ap, eLst_ap, oNone_ap, oSome_ap, eSl_ap, eCall_ap, iLst_ap, iTpl_ap, iRan2_apN, eOf_ap, oLst_ap, oCat_ap, oRep_ap, oSl_ap, oList_ap, oComp_ap, tYesF_ap, sNil_ap, sSeq_th, sBrk_ap, sCnt_ap, sExpr_ap, sRet_ap, sRetN_ap, sIf_ap, sSet_ap, sSetO_ap, sAsg_ap, sPar_ap, sPar3_ap, sAug_ap, sApp_ap, sExt_ap, sSetIx_ap, sFrz_ap, eIxO_ap, eLenO_ap, eIxA_ap, eLenA_ap, vOf_ap, vCons_ap, vOwn_ap, vOwn2_ap, sTup_ap, iSeq_ap, sRaise_ap, sTry_ap, eExF_ap, tIfF_ap, eRev_ap, eRevA_ap, eRevF_ap, th_nx, th_rt, th_bk, th_ct, th_exc, bind_ok, bind_exc, go_ok, go_exc, opAdd_int, opSub_int, opMul_a, opMul_b, opDiv_pos, opDiv_wide, opMod_pos, opI_int, opEq_int, opNe_int, opEq_bool, opNe_bool, atI_0, atI_1, atI_2, atI_3, opIx_list, opIx_tuple, iRan1_ap, bLen_list, bLen_tuple, bInt_int, bAbs_int, bName, bNil, bCons, bTup, List.getElem?_cons_zero, List.getElem?_cons_succ, List.set_cons_zero, List.set_cons_succ, List.length_cons, List.length_nil, noTok, if_true, if_false, decide_true, decide_false, Bool.not_true, Bool.not_false, setAll, List.map_cons, List.map_nil, truD, Bool.true_eq_false, Bool.false_eq_true, Option.bind_some, true_and, and_true, List.replicate, startR, List.cons_append, List.nil_append, Nat.sub_self, reduceIte, ↓reduceIte, DL.isNon, LIM_eq, and_self, List.map_append, List.length_map, Int.toNat_natCast, Nat.zero_le, Nat.reduceLeDiff, Int.reduceNeg, Int.reduceLE, Int.reduceLT, Int.zero_add, ran1_int, ran2_int, noEx, eq_self, dI, dP, dPs]
    refine m_rt (np := 3) rfl (Eq.trans (b := sem_best_parts [.d (.int a), .d (.int b), .d (.int m), .un, .un, .un, .un, .un] g) rfl ?_)
    exact seq_nx (ρ1 := [.d (.int a), .d (.int b), .d (.int m), .own [], .d .none, .un, .un, .un]) (g1 := g) rfl (seq_nx (for_eq hi hw1) rfl)
  · have hi : iRan2 (aCons (eC (.int 1)) (aCons (eBin opAdd (eV 2) (eC (.int 1))) aNil)) [.d (.int a), .d (.int b), .d (.int m), .own [], .d .none, .un, .un, .un, .un] g = .ok ((fromT 1 (m + 1)).map .int) g := by
      rw [← upTo_fromT]
      simp (disch := omega) only [eV_ap, eC_ap, eBin_ap, eNeg_ap, tVal_ap, eIsN_ap, eNotN_ap, eChain_ap, tAndF_ap, tOrF_ap, tNotF_ap, tTru_ap, eAnd_ap, eOr_ap, eNot_ap, eIf_ap, aNil_ap, aCons_ap, eTup_ap, eLst_ap, oNone_ap, oSome_ap, eSl_ap, eCall_ap, iLst_ap, iTpl_ap, iRan2_apN, eOf_ap, oLst_ap, oCat_ap, oRep_ap, oSl_ap, oList_ap, oComp_ap, tYesF_ap, sNil_ap, sSeq_th, sBrk_ap, sCnt_ap, sExpr_ap, sRet_ap, sRetN_ap, sIf_ap, sSet_ap, sSetO_ap, sAsg_ap, sPar_ap, sPar3_ap, sAug_ap, sApp_ap, sExt_ap, sSetIx_ap, sFrz_ap, eIxO_ap, eLenO_ap, eIxA_ap, eLenA_ap, vOf_ap, vCons_ap, vOwn_ap, vOwn2_ap, sTup_ap, iSeq_ap, sRaise_ap, sTry_ap, eExF_ap, tIfF_ap, eRev_ap, eRevA_ap, eRevF_ap, th_nx, th_rt, th_bk, th_ct, th_exc, bind_ok, bind_exc, go_ok, go_exc, opAdd_int, opSub_int, opMul_a, opMul_b, opDiv_pos, opDiv_wide, opMod_pos, opI_int, opEq_int, opNe_int, opEq_bool, opNe_bool, atI_0, atI_1, atI_2, atI_3, opIx_list, opIx_tuple, iRan1_ap, bLen_list, bLen_tuple, bInt_int, bAbs_int, bName, bNil, bCons, bTup, List.getElem?_cons_zero, List.getElem?_cons_succ, List.set_cons_zero, List.set_cons_succ, List.length_cons, List.length_nil, noTok, if_true, if_false, decide_true, decide_false, Bool.not_true, Bool.not_false, setAll, List.map_cons, List.map_nil, truD, Bool.true_eq_false, Bool.false_eq_true, Option.bind_some, true_and, and_true, List.replicate, startR, List.cons_append, List.nil_append, Nat.sub_self, reduceIte, ↓reduceIte, DL.isNon, LIM_eq, and_self, List.map_append, List.length_map, Int.toNat_natCast, Nat.zero_le, Nat.reduceLeDiff, Int.reduceNeg, Int.reduceLE, Int.reduceLT, Int.zero_add, ran1_int, ran2_int, noEx, eq_self, dI, dP, dPs]
    refine m_rt (np := 3) rfl (Eq.trans (b := sem__law_best [.d (.int a), .d (.int b), .d (.int m), .un, .un, .un, .un, .un, .un] g) rfl ?_)
    exact seq_nx (ρ1 := [.d (.int a), .d (.int b), .d (.int m), .own [], .d .none, .un, .un, .un, .un]) (g1 := g) rfl (seq_nx (for_eq hi hw2) rfl)
end K46
namespace K46
open PySem
open PySem.Spec
open PyProof.Rows
open L2
open DL
variable {g : G}
theorem div_one {a b u v : Int} (h : u * a + v * b = 1) (ha : 0 ≤ a ∧ a < 1000000000) (hb : 0 ≤ b ∧ b < 1000000000) (g : G) : m__law_divisor [.int a, .int b] g = .ok (.int 1) g := by
  obtain ⟨ρ', g', ⟨hg, rfl⟩, hw⟩ := sWhile_run (t := W__law_divisor_1) (f := B__law_divisor_1) (N := 1000000000000000000000000000000) (m := b.toNat) (g := g) (ρ := [.d (.int a), .d (.int b)])
    (fun m ρ g' => g' = g ∧ ∃ c d u v : Int, u * c + v * d = 1 ∧ 0 ≤ c ∧ c < 1000000000 ∧ 0 ≤ d ∧ d < 1000000000 ∧ m = d.toNat ∧ ρ = [.d (.int c), .d (.int d)])
    (fun ρ g' => g' = g ∧ ρ = [.d (.int 1), .d (.int 0)])
    ⟨rfl, a, b, u, v, h, ha.1, ha.2, hb.1, hb.2, rfl, rfl⟩ (by omega) (by
      rintro m ρ g' ⟨rfl, c, d, u, v, h, c0, c1, d0, d1, rfl, rfl⟩
      by_cases hd : d = 0
      · subst hd
        rw [Int.mul_zero, Int.add_zero] at h
        have hc : c = 1 := by
          rcases Int.lt_or_le 1 c with z | z
          · have : c ∣ 1 := ⟨u, by rw [Int.mul_comm]; exact h.symm⟩
            have := Int.le_of_dvd (by decide) this
            omega
          · rcases Int.lt_or_le c 1 with y | y
            · have : c = 0 := by omega
              subst this
              omega
            · omega
        subst hc
        left
        exact ⟨by simp (disch := omega) only [W__law_divisor_1, eV_ap, eC_ap, eBin_ap, eNeg_ap, tVal_ap, eIsN_ap, eNotN_ap, eChain_ap, tAndF_ap, tOrF_ap, tNotF_ap, tTru_ap, eAnd_ap, eOr_ap, eNot_ap, eIf_ap, aNil_ap, aCons_ap, eTup_ap, eLst_ap, oNone_ap, oSome_ap, eSl_ap, eCall_ap, iLst_ap, iTpl_ap, iRan2_apN, eOf_ap, oLst_ap, oCat_ap, oRep_ap, oSl_ap, oList_ap, oComp_ap, tYesF_ap, sNil_ap, sSeq_th, sBrk_ap, sCnt_ap, sExpr_ap, sRet_ap, sRetN_ap, sIf_ap, sSet_ap, sSetO_ap, sAsg_ap, sPar_ap, sPar3_ap, sAug_ap, sApp_ap, sExt_ap, sSetIx_ap, sFrz_ap, eIxO_ap, eLenO_ap, eIxA_ap, eLenA_ap, vOf_ap, vCons_ap, vOwn_ap, vOwn2_ap, sTup_ap, iSeq_ap, sRaise_ap, sTry_ap, eExF_ap, tIfF_ap, eRev_ap, eRevA_ap, eRevF_ap, th_nx, th_rt, th_bk, th_ct, th_exc, bind_ok, bind_exc, go_ok, go_exc, opAdd_int, opSub_int, opMul_a, opMul_b, opDiv_pos, opDiv_wide, opMod_pos, opI_int, opEq_int, opNe_int, opEq_bool, opNe_bool, atI_0, atI_1, atI_2, atI_3, opIx_list, opIx_tuple, iRan1_ap, bLen_list, bLen_tuple, bInt_int, bAbs_int, bName, bNil, bCons, bTup, List.getElem?_cons_zero, List.getElem?_cons_succ, List.set_cons_zero, List.set_cons_succ, List.length_cons, List.length_nil, noTok, if_true, if_false, decide_true, decide_false, Bool.not_true, Bool.not_false, setAll, List.map_cons, List.map_nil, truD, Bool.true_eq_false, Bool.false_eq_true, Option.bind_some, true_and, and_true, List.replicate, startR, List.cons_append, List.nil_append, Nat.sub_self, reduceIte, ↓reduceIte, DL.isNon, LIM_eq, and_self, List.map_append, List.length_map, Int.toNat_natCast, Nat.zero_le, Nat.reduceLeDiff, Int.reduceNeg, Int.reduceLE, Int.reduceLT, Int.zero_add, ran1_int, ran2_int, noEx, eq_self, dI, dP, dPs], rfl, rfl⟩
      · right
        have m0 := Int.emod_nonneg c hd
        have m1 := Int.emod_lt_of_pos c (show 0 < d by omega)
        have e := Int.mul_ediv_add_emod c d
        refine ⟨by simp (disch := omega) only [W__law_divisor_1, hd, eV_ap, eC_ap, eBin_ap, eNeg_ap, tVal_ap, eIsN_ap, eNotN_ap, eChain_ap, tAndF_ap, tOrF_ap, tNotF_ap, tTru_ap, eAnd_ap, eOr_ap, eNot_ap, eIf_ap, aNil_ap, aCons_ap, eTup_ap, eLst_ap, oNone_ap, oSome_ap, eSl_ap, eCall_ap, iLst_ap, iTpl_ap, iRan2_apN, eOf_ap, oLst_ap, oCat_ap, oRep_ap, oSl_ap, oList_ap, oComp_ap, tYesF_ap, sNil_ap, sSeq_th, sBrk_ap, sCnt_ap, sExpr_ap, sRet_ap, sRetN_ap, sIf_ap, sSet_ap, sSetO_ap, sAsg_ap, sPar_ap, sPar3_ap, sAug_ap, sApp_ap, sExt_ap, sSetIx_ap, sFrz_ap, eIxO_ap, eLenO_ap, eIxA_ap, eLenA_ap, vOf_ap, vCons_ap, vOwn_ap, vOwn2_ap, sTup_ap, iSeq_ap, sRaise_ap, sTry_ap, eExF_ap, tIfF_ap, eRev_ap, eRevA_ap, eRevF_ap, th_nx, th_rt, th_bk, th_ct, th_exc, bind_ok, bind_exc, go_ok, go_exc, opAdd_int, opSub_int, opMul_a, opMul_b, opDiv_pos, opDiv_wide, opMod_pos, opI_int, opEq_int, opNe_int, opEq_bool, opNe_bool, atI_0, atI_1, atI_2, atI_3, opIx_list, opIx_tuple, iRan1_ap, bLen_list, bLen_tuple, bInt_int, bAbs_int, bName, bNil, bCons, bTup, List.getElem?_cons_zero, List.getElem?_cons_succ, List.set_cons_zero, List.set_cons_succ, List.length_cons, List.length_nil, noTok, if_true, if_false, decide_true, decide_false, Bool.not_true, Bool.not_false, setAll, List.map_cons, List.map_nil, truD, Bool.true_eq_false, Bool.false_eq_true, Option.bind_some, true_and, and_true, List.replicate, startR, List.cons_append, List.nil_append, Nat.sub_self, reduceIte, ↓reduceIte, DL.isNon, LIM_eq, and_self, List.map_append, List.length_map, Int.toNat_natCast, Nat.zero_le, Nat.reduceLeDiff, Int.reduceNeg, Int.reduceLE, Int.reduceLT, Int.zero_add, ran1_int, ran2_int, noEx, eq_self, dI, dP, dPs], (c % d).toNat, [.d (.int d), .d (.int (c % d))], g', by omega, .inl ?_, rfl, d, c % d, v + u * (c / d), u, ?_, d0, d1, m0, by omega, rfl, rfl⟩
        · simp (disch := omega) only [B__law_divisor_1, S__law_divisor_2, eV_ap, eC_ap, eBin_ap, eNeg_ap, tVal_ap, eIsN_ap, eNotN_ap, eChain_ap, tAndF_ap, tOrF_ap, tNotF_ap, tTru_ap, eAnd_ap, eOr_ap, eNot_ap, eIf_ap, aNil_ap, aCons_ap, eTup_ap, eLst_ap, oNone_ap, oSome_ap, eSl_ap, eCall_ap, iLst_ap, iTpl_ap, iRan2_apN, eOf_ap, oLst_ap, oCat_ap, oRep_ap, oSl_ap, oList_ap, oComp_ap, tYesF_ap, sNil_ap, sSeq_th, sBrk_ap, sCnt_ap, sExpr_ap, sRet_ap, sRetN_ap, sIf_ap, sSet_ap, sSetO_ap, sAsg_ap, sPar_ap, sPar3_ap, sAug_ap, sApp_ap, sExt_ap, sSetIx_ap, sFrz_ap, eIxO_ap, eLenO_ap, eIxA_ap, eLenA_ap, vOf_ap, vCons_ap, vOwn_ap, vOwn2_ap, sTup_ap, iSeq_ap, sRaise_ap, sTry_ap, eExF_ap, tIfF_ap, eRev_ap, eRevA_ap, eRevF_ap, th_nx, th_rt, th_bk, th_ct, th_exc, bind_ok, bind_exc, go_ok, go_exc, opAdd_int, opSub_int, opMul_a, opMul_b, opDiv_pos, opDiv_wide, opMod_pos, opI_int, opEq_int, opNe_int, opEq_bool, opNe_bool, atI_0, atI_1, atI_2, atI_3, opIx_list, opIx_tuple, iRan1_ap, bLen_list, bLen_tuple, bInt_int, bAbs_int, bName, bNil, bCons, bTup, List.getElem?_cons_zero, List.getElem?_cons_succ, List.set_cons_zero, List.set_cons_succ, List.length_cons, List.length_nil, noTok, if_true, if_false, decide_true, decide_false, Bool.not_true, Bool.not_false, setAll, List.map_cons, List.map_nil, truD, Bool.true_eq_false, Bool.false_eq_true, Option.bind_some, true_and, and_true, List.replicate, startR, List.cons_append, List.nil_append, Nat.sub_self, reduceIte, ↓reduceIte, DL.isNon, LIM_eq, and_self, List.map_append, List.length_map, Int.toNat_natCast, Nat.zero_le, Nat.reduceLeDiff, Int.reduceNeg, Int.reduceLE, Int.reduceLT, Int.zero_add, ran1_int, ran2_int, noEx, eq_self, dI, dP, dPs]
        · have : (v + u * (c / d)) * d + u * (c % d) = u * (d * (c / d) + c % d) + v * d := by grind
          rw [this, e]
          exact h)
  subst hg
  refine m_rt (np := 2) rfl (Eq.trans (b := sem__law_divisor [.d (.int a), .d (.int b)] g') rfl ?_)
  exact seq_nx hw rfl
structure Btw (a0 a1 b0 b1 l0 l1 h0 h1 : Int) : Prop where
  p0 : 0 ≤ l0
  p1 : 1 ≤ l1
  q0 : 1 ≤ h0
  q1 : 0 ≤ h1
  det : h0 * l1 - l0 * h1 = 1
  lo : l0 * a1 ≤ a0 * l1
  hi : b0 * h1 ≤ h0 * b1
theorem between_ge {l0 l1 h0 h1 x y : Int} (L0 : 0 ≤ l0) (L1 : 1 ≤ l1) (H0 : 1 ≤ h0) (H1 : 0 ≤ h1) (det : h0 * l1 - l0 * h1 = 1) (u : l0 * y < x * l1) (v : x * h1 < h0 * y) : l0 + h0 ≤ x ∧ l1 + h1 ≤ y := by
  have ex : x = (x * l1 - l0 * y) * h0 + (h0 * y - x * h1) * l0 := by
    have : (x * l1 - l0 * y) * h0 + (h0 * y - x * h1) * l0 = x * (h0 * l1 - l0 * h1) := by grind
    rw [this, det, Int.mul_one]
  have ey : y = (x * l1 - l0 * y) * h1 + (h0 * y - x * h1) * l1 := by
    have : (x * l1 - l0 * y) * h1 + (h0 * y - x * h1) * l1 = y * (h0 * l1 - l0 * h1) := by grind
    rw [this, det, Int.mul_one]
  have hU : 1 ≤ x * l1 - l0 * y := by omega
  have hV : 1 ≤ h0 * y - x * h1 := by omega
  generalize x * l1 - l0 * y = U at *
  generalize h0 * y - x * h1 = V at *
  have a1 := Int.mul_le_mul_of_nonneg_right hU (show 0 ≤ h0 by omega)
  have a2 := Int.mul_le_mul_of_nonneg_right hV L0
  have a3 := Int.mul_le_mul_of_nonneg_right hU H1
  have a4 := Int.mul_le_mul_of_nonneg_right hV (show 0 ≤ l1 by omega)
  omega
theorem lt_of_le_lt {a b c d x y : Int} (hb : 1 ≤ b) (hd : 0 ≤ d) (hy : 1 ≤ y) (h1 : c * b ≤ a * d) (h2 : a * y < x * b) (hd1 : 1 ≤ d) : c * y < x * d := by
  have e1 : c * y * b ≤ a * d * y := by
    have := Int.mul_le_mul_of_nonneg_right h1 (show 0 ≤ y by omega)
    have e : c * y * b = c * b * y := by grind
    omega
  have e2 : a * d * y < x * d * b := by
    have := Int.mul_lt_mul_of_pos_right h2 (show 0 < d by omega)
    have e3 : a * y * d = a * d * y := by grind
    have e4 : x * b * d = x * d * b := by grind
    omega
  have : c * y * b < x * d * b := by omega
  exact Int.lt_of_mul_lt_mul_right this (by omega)
theorem hi_lt {b0 b1 h0 h1 x y : Int} (hb : 1 ≤ b1) (H0 : 1 ≤ h0) (H1 : 0 ≤ h1) (hy : 1 ≤ y) (h : b0 * h1 ≤ h0 * b1) (u : x * b1 < b0 * y) : x * h1 < h0 * y := by
  rcases Int.lt_or_eq_of_le H1 with z | z
  · have e1 : x * h1 * b1 < b0 * y * h1 := by
      have := Int.mul_lt_mul_of_pos_right u z
      have e : x * b1 * h1 = x * h1 * b1 := by grind
      omega
    have e2 : b0 * y * h1 ≤ h0 * y * b1 := by
      have := Int.mul_le_mul_of_nonneg_right h (show 0 ≤ y by omega)
      have e3 : b0 * h1 * y = b0 * y * h1 := by grind
      have e4 : h0 * b1 * y = h0 * y * b1 := by grind
      omega
    have : x * h1 * b1 < h0 * y * b1 := by omega
    exact Int.lt_of_mul_lt_mul_right this (by omega)
  · rw [← z, Int.mul_zero]
    exact Int.mul_pos (by omega) (by omega)
theorem Btw.ge {a0 a1 b0 b1 l0 l1 h0 h1 x y : Int} (I : Btw a0 a1 b0 b1 l0 l1 h0 h1) (ha : 1 ≤ a1) (hb : 1 ≤ b1) (hy : 1 ≤ y) (u : a0 * y < x * a1) (v : x * b1 < b0 * y) : l0 + h0 ≤ x ∧ l1 + h1 ≤ y :=
  between_ge I.p0 I.p1 I.q0 I.q1 I.det (lt_of_le_lt ha (by have := I.p1; omega) hy I.lo u I.p1) (hi_lt hb I.q0 I.q1 hy I.hi v)
theorem sWhile_end {t : TF} {f : SF} (P : Nat → RS → Prop) (R : D → Prop) (h : ∀ m ρ, P m ρ → t ρ g = .ok true g ∧ ((∃ d, f ρ g = .rt d g ∧ R d) ∨ ∃ m' ρ', m' < m ∧ f ρ g = .nx ρ' g ∧ P m' ρ')) :
    ∀ N m ρ, P m ρ → m < N → ∃ d, R d ∧ whileF t f N ρ g = .rt d g
  | 0, _, _, _, hm => absurd hm (Nat.not_lt_zero _)
  | N + 1, m, ρ, p, hm => by
    obtain ⟨h1, h2⟩ := h m ρ p
    rcases h2 with ⟨d, h2, h3⟩ | ⟨m', ρ', h2, h3, h4⟩
    · refine ⟨d, h3, ?_⟩
      unfold whileF
      rw [h1]
      simp only [Out.go, if_true, h2]
    · obtain ⟨d, k1, k2⟩ := sWhile_end P R h N m' ρ' h4 (by omega)
      refine ⟨d, k1, ?_⟩
      unfold whileF
      rw [h1]
      simp only [Out.go, if_true, h3]
      exact k2
def BtwR (a0 a1 b0 b1 : Int) (d : D) : Prop := ∃ p q : Int, d = tDI [p, q] ∧ 1 ≤ q ∧ q ≤ a1 + b1 ∧ 0 ≤ p ∧ p ≤ a0 + b0 ∧ a0 * q < p * a1 ∧ p * b1 < b0 * q ∧ (∀ x y : Int, 1 ≤ y → a0 * y < x * a1 → x * b1 < b0 * y → p ≤ x ∧ q ≤ y) ∧ ∃ u v : Int, u * p + v * q = 1
theorem m_between_eq {a0 a1 b0 b1 : Int} (ha : 0 ≤ a0 ∧ a0 ≤ 1000) (ha1 : 1 ≤ a1 ∧ a1 ≤ 1000) (hb : 0 ≤ b0 ∧ b0 ≤ 1000) (hb1 : 1 ≤ b1 ∧ b1 ≤ 1000) (hl : a0 * b1 < b0 * a1) (g : G) : ∃ d, BtwR a0 a1 b0 b1 d ∧ m_between [tDI [a0, a1], tDI [b0, b1]] g = .ok d g := by
  have med : ∀ l0 l1 h0 h1, Btw a0 a1 b0 b1 l0 l1 h0 h1 → l0 + h0 ≤ a0 + b0 ∧ l1 + h1 ≤ a1 + b1 := fun l0 l1 h0 h1 I => I.ge ha1.1 hb1.1 (by omega) (by
    have e1 : a0 * (a1 + b1) = a0 * a1 + a0 * b1 := by grind
    have e2 : (a0 + b0) * a1 = a0 * a1 + b0 * a1 := by grind
    omega) (by
    have e1 : (a0 + b0) * b1 = a0 * b1 + b0 * b1 := by grind
    have e2 : b0 * (a1 + b1) = b0 * a1 + b0 * b1 := by grind
    omega)
  obtain ⟨d, hR, hw⟩ := sWhile_end (g := g) (t := W_between_2) (f := B_between_2) (fun m ρ => ∃ l0 l1 h0 h1 y, Btw a0 a1 b0 b1 l0 l1 h0 h1 ∧ m = (5000 - (l0 + h0 + l1 + h1)).toNat ∧ ρ = [.d (tDI [a0, a1]), .d (tDI [b0, b1]), .d (tDI [l0, l1]), .d (tDI [h0, h1]), y]) (BtwR a0 a1 b0 b1) (by
      rintro m ρ ⟨l0, l1, h0, h1, y, I, rfl, rfl⟩
      refine ⟨rfl, ?_⟩
      obtain ⟨m0, m1⟩ := med _ _ _ _ I
      have p0 := I.p0
      have p1 := I.p1
      have q0 := I.q0
      have q1 := I.q1
      have det := I.det
      have s3 : S_between_3 [.d (tDI [a0, a1]), .d (tDI [b0, b1]), .d (tDI [l0, l1]), .d (tDI [h0, h1]), y] g = .nx [.d (tDI [a0, a1]), .d (tDI [b0, b1]), .d (tDI [l0, l1]), .d (tDI [h0, h1]), .d (tDI [l0 + h0, l1 + h1])] g := by
        simp (disch := omega) only [S_between_3, tDI, eV_ap, eC_ap, eBin_ap, eNeg_ap, tVal_ap, eIsN_ap, eNotN_ap, eChain_ap, tAndF_ap, tOrF_ap, tNotF_ap, tTru_ap, eAnd_ap, eOr_ap, eNot_ap, eIf_ap, aNil_ap, aCons_ap, eTup_ap, eLst_ap, oNone_ap, oSome_ap, eSl_ap, eCall_ap, iLst_ap, iTpl_ap, iRan2_apN, eOf_ap, oLst_ap, oCat_ap, oRep_ap, oSl_ap, oList_ap, oComp_ap, tYesF_ap, sNil_ap, sSeq_th, sBrk_ap, sCnt_ap, sExpr_ap, sRet_ap, sRetN_ap, sIf_ap, sSet_ap, sSetO_ap, sAsg_ap, sPar_ap, sPar3_ap, sAug_ap, sApp_ap, sExt_ap, sSetIx_ap, sFrz_ap, eIxO_ap, eLenO_ap, eIxA_ap, eLenA_ap, vOf_ap, vCons_ap, vOwn_ap, vOwn2_ap, sTup_ap, iSeq_ap, sRaise_ap, sTry_ap, eExF_ap, tIfF_ap, eRev_ap, eRevA_ap, eRevF_ap, th_nx, th_rt, th_bk, th_ct, th_exc, bind_ok, bind_exc, go_ok, go_exc, opAdd_int, opSub_int, opMul_a, opMul_b, opDiv_pos, opDiv_wide, opMod_pos, opI_int, opEq_int, opNe_int, opEq_bool, opNe_bool, atI_0, atI_1, atI_2, atI_3, opIx_list, opIx_tuple, iRan1_ap, bLen_list, bLen_tuple, bInt_int, bAbs_int, bName, bNil, bCons, bTup, List.getElem?_cons_zero, List.getElem?_cons_succ, List.set_cons_zero, List.set_cons_succ, List.length_cons, List.length_nil, noTok, if_true, if_false, decide_true, decide_false, Bool.not_true, Bool.not_false, setAll, List.map_cons, List.map_nil, truD, Bool.true_eq_false, Bool.false_eq_true, Option.bind_some, true_and, and_true, List.replicate, startR, List.cons_append, List.nil_append, Nat.sub_self, reduceIte, ↓reduceIte, DL.isNon, LIM_eq, and_self, List.map_append, List.length_map, Int.toNat_natCast, Nat.zero_le, Nat.reduceLeDiff, Int.reduceNeg, Int.reduceLE, Int.reduceLT, Int.zero_add, ran1_int, ran2_int, noEx, eq_self, dI, dP, dPs]
      have t1 : tVal (eBin opLe (eBin opMul (eBin opIx (eV 4) (eC (.int 0))) (eBin opIx (eV 0) (eC (.int 1)))) (eBin opMul (eBin opIx (eV 0) (eC (.int 0))) (eBin opIx (eV 4) (eC (.int 1))))) [.d (tDI [a0, a1]), .d (tDI [b0, b1]), .d (tDI [l0, l1]), .d (tDI [h0, h1]), .d (tDI [l0 + h0, l1 + h1])] g = .ok (decide ((l0 + h0) * a1 ≤ a0 * (l1 + h1))) g := by
        simp (disch := omega) only [tDI, eV_ap, eC_ap, eBin_ap, eNeg_ap, tVal_ap, eIsN_ap, eNotN_ap, eChain_ap, tAndF_ap, tOrF_ap, tNotF_ap, tTru_ap, eAnd_ap, eOr_ap, eNot_ap, eIf_ap, aNil_ap, aCons_ap, eTup_ap, eLst_ap, oNone_ap, oSome_ap, eSl_ap, eCall_ap, iLst_ap, iTpl_ap, iRan2_apN, eOf_ap, oLst_ap, oCat_ap, oRep_ap, oSl_ap, oList_ap, oComp_ap, tYesF_ap, sNil_ap, sSeq_th, sBrk_ap, sCnt_ap, sExpr_ap, sRet_ap, sRetN_ap, sIf_ap, sSet_ap, sSetO_ap, sAsg_ap, sPar_ap, sPar3_ap, sAug_ap, sApp_ap, sExt_ap, sSetIx_ap, sFrz_ap, eIxO_ap, eLenO_ap, eIxA_ap, eLenA_ap, vOf_ap, vCons_ap, vOwn_ap, vOwn2_ap, sTup_ap, iSeq_ap, sRaise_ap, sTry_ap, eExF_ap, tIfF_ap, eRev_ap, eRevA_ap, eRevF_ap, th_nx, th_rt, th_bk, th_ct, th_exc, bind_ok, bind_exc, go_ok, go_exc, opAdd_int, opSub_int, opMul_a, opMul_b, opDiv_pos, opDiv_wide, opMod_pos, opI_int, opEq_int, opNe_int, opEq_bool, opNe_bool, atI_0, atI_1, atI_2, atI_3, opIx_list, opIx_tuple, iRan1_ap, bLen_list, bLen_tuple, bInt_int, bAbs_int, bName, bNil, bCons, bTup, List.getElem?_cons_zero, List.getElem?_cons_succ, List.set_cons_zero, List.set_cons_succ, List.length_cons, List.length_nil, noTok, if_true, if_false, decide_true, decide_false, Bool.not_true, Bool.not_false, setAll, List.map_cons, List.map_nil, truD, Bool.true_eq_false, Bool.false_eq_true, Option.bind_some, true_and, and_true, List.replicate, startR, List.cons_append, List.nil_append, Nat.sub_self, reduceIte, ↓reduceIte, DL.isNon, LIM_eq, and_self, List.map_append, List.length_map, Int.toNat_natCast, Nat.zero_le, Nat.reduceLeDiff, Int.reduceNeg, Int.reduceLE, Int.reduceLT, Int.zero_add, ran1_int, ran2_int, noEx, eq_self, dI, dP, dPs]
      have t2 : tVal (eBin opGe (eBin opMul (eBin opIx (eV 4) (eC (.int 0))) (eBin opIx (eV 1) (eC (.int 1)))) (eBin opMul (eBin opIx (eV 1) (eC (.int 0))) (eBin opIx (eV 4) (eC (.int 1))))) [.d (tDI [a0, a1]), .d (tDI [b0, b1]), .d (tDI [l0, l1]), .d (tDI [h0, h1]), .d (tDI [l0 + h0, l1 + h1])] g = .ok (decide (b0 * (l1 + h1) ≤ (l0 + h0) * b1)) g := by
        simp (disch := omega) only [tDI, eV_ap, eC_ap, eBin_ap, eNeg_ap, tVal_ap, eIsN_ap, eNotN_ap, eChain_ap, tAndF_ap, tOrF_ap, tNotF_ap, tTru_ap, eAnd_ap, eOr_ap, eNot_ap, eIf_ap, aNil_ap, aCons_ap, eTup_ap, eLst_ap, oNone_ap, oSome_ap, eSl_ap, eCall_ap, iLst_ap, iTpl_ap, iRan2_apN, eOf_ap, oLst_ap, oCat_ap, oRep_ap, oSl_ap, oList_ap, oComp_ap, tYesF_ap, sNil_ap, sSeq_th, sBrk_ap, sCnt_ap, sExpr_ap, sRet_ap, sRetN_ap, sIf_ap, sSet_ap, sSetO_ap, sAsg_ap, sPar_ap, sPar3_ap, sAug_ap, sApp_ap, sExt_ap, sSetIx_ap, sFrz_ap, eIxO_ap, eLenO_ap, eIxA_ap, eLenA_ap, vOf_ap, vCons_ap, vOwn_ap, vOwn2_ap, sTup_ap, iSeq_ap, sRaise_ap, sTry_ap, eExF_ap, tIfF_ap, eRev_ap, eRevA_ap, eRevF_ap, th_nx, th_rt, th_bk, th_ct, th_exc, bind_ok, bind_exc, go_ok, go_exc, opAdd_int, opSub_int, opMul_a, opMul_b, opDiv_pos, opDiv_wide, opMod_pos, opI_int, opEq_int, opNe_int, opEq_bool, opNe_bool, atI_0, atI_1, atI_2, atI_3, opIx_list, opIx_tuple, iRan1_ap, bLen_list, bLen_tuple, bInt_int, bAbs_int, bName, bNil, bCons, bTup, List.getElem?_cons_zero, List.getElem?_cons_succ, List.set_cons_zero, List.set_cons_succ, List.length_cons, List.length_nil, noTok, if_true, if_false, decide_true, decide_false, Bool.not_true, Bool.not_false, setAll, List.map_cons, List.map_nil, truD, Bool.true_eq_false, Bool.false_eq_true, Option.bind_some, true_and, and_true, List.replicate, startR, List.cons_append, List.nil_append, Nat.sub_self, reduceIte, ↓reduceIte, DL.isNon, LIM_eq, and_self, List.map_append, List.length_map, Int.toNat_natCast, Nat.zero_le, Nat.reduceLeDiff, Int.reduceNeg, Int.reduceLE, Int.reduceLT, Int.zero_add, ran1_int, ran2_int, noEx, eq_self, dI, dP, dPs]
      by_cases c1 : (l0 + h0) * a1 ≤ a0 * (l1 + h1)
      · right
        refine ⟨(5000 - (l0 + h0 + h0 + (l1 + h1 + h1))).toNat, [.d (tDI [a0, a1]), .d (tDI [b0, b1]), .d (tDI [l0 + h0, l1 + h1]), .d (tDI [h0, h1]), .d (tDI [l0 + h0, l1 + h1])], by omega, seq_nx s3 ?_, l0 + h0, l1 + h1, h0, h1, _, ⟨by omega, by omega, q0, q1, by grind, c1, I.hi⟩, by congr 1; omega, rfl⟩
        unfold S_between_4
        rw [sIf_ap, t1, decide_eq_true c1, go_ok, if_pos rfl]
        rfl
      · by_cases c2 : b0 * (l1 + h1) ≤ (l0 + h0) * b1
        · right
          refine ⟨(5000 - (l0 + (l0 + h0) + (l1 + (l1 + h1)))).toNat, [.d (tDI [a0, a1]), .d (tDI [b0, b1]), .d (tDI [l0, l1]), .d (tDI [l0 + h0, l1 + h1]), .d (tDI [l0 + h0, l1 + h1])], by omega, seq_nx s3 ?_, l0, l1, l0 + h0, l1 + h1, _, ⟨p0, p1, by omega, by omega, by grind, I.lo, c2⟩, by congr 1; omega, rfl⟩
          unfold S_between_4 S_between_6
          rw [sIf_ap, t1, decide_eq_false c1, go_ok, if_neg (by decide), sIf_ap, t2, decide_eq_true c2, go_ok, if_pos rfl]
          rfl
        · left
          refine ⟨tDI [l0 + h0, l1 + h1], seq_nx s3 ?_, l0 + h0, l1 + h1, rfl, by omega, m1, by omega, m0, by omega, by omega, fun x y hy u v => I.ge ha1.1 hb1.1 hy u v, l1, -l0, by grind⟩
          unfold S_between_4 S_between_6
          rw [sIf_ap, t1, decide_eq_false c1, go_ok, if_neg (by decide), sIf_ap, t2, decide_eq_false c2, go_ok, if_neg (by decide)]
          rfl) 1000000000000000000000000000000 4998 [.d (tDI [a0, a1]), .d (tDI [b0, b1]), .d (tDI [0, 1]), .d (tDI [1, 0]), .un] ⟨0, 1, 1, 0, .un, ⟨by omega, by omega, by omega, by omega, by omega, by omega, by omega⟩, rfl, rfl⟩ (by decide)
  exact ⟨d, hR, m_rt (np := 2) rfl (Eq.trans (b := sem_between [.d (tDI [a0, a1]), .d (tDI [b0, b1]), .un, .un, .un] g) rfl (seq_nx (ρ1 := [.d (tDI [a0, a1]), .d (tDI [b0, b1]), .d (tDI [0, 1]), .d (tDI [1, 0]), .un]) (g1 := g) rfl hw))⟩
end K46
namespace K46
open PySem
open PySem.Spec
open PyProof.Rows
open L2
open DL
variable {g : G}
theorem upTo_cons (lo : Int) (n : Nat) : DL.upTo lo (n + 1) = .int lo :: DL.upTo (lo + 1) n := by
  unfold DL.upTo
  rw [List.range_succ_eq_map, List.map_cons, List.map_map]
  congr 1
  · show PyData.int (lo + ((0 : Nat) : Int)) = _
    congr 1
    omega
  · refine List.map_congr_left fun i _ => ?_
    show PyData.int (lo + ((i + 1 : Nat) : Int)) = PyData.int (lo + 1 + (i : Int))
    congr 1
    omega
theorem forL_rt {b : BF} {f : SF} {x v : D} {xs : List D} {ρ ρ1 : RS} {g g2 : G} (h1 : b x ρ = some ρ1) (h2 : f ρ1 g = .rt v g2) : forL b f (x :: xs) ρ g = .rt v g2 := by
  show (match b x ρ with | none => SO.bad | some ρ1 => match f ρ1 g with | .nx ρ2 g2 => forL b f xs ρ2 g2 | .ct ρ2 g2 => forL b f xs ρ2 g2 | .bk ρ2 g2 => .nx ρ2 g2 | o => o) = _
  rw [h1]
  show (match f ρ1 g with | .nx ρ2 g2 => forL b f xs ρ2 g2 | .ct ρ2 g2 => forL b f xs ρ2 g2 | .bk ρ2 g2 => .nx ρ2 g2 | o => o) = _
  rw [h2]
theorem forL_until {b : BF} {f : SF} (P : RS → Prop) (d : D) (q : Int) : ∀ (n : Nat) (lo : Int) (ρ : RS), P ρ → lo ≤ q → q < lo + n → (∀ k ρ, lo ≤ k → k < q → P ρ → ∃ ρ1 ρ2, b (.int k) ρ = some ρ1 ∧ f ρ1 g = .nx ρ2 g ∧ P ρ2) → (∀ ρ, P ρ → ∃ ρ1, b (.int q) ρ = some ρ1 ∧ f ρ1 g = .rt d g) → forL b f (DL.upTo lo n) ρ g = .rt d g
  | 0, lo, ρ, _, h1, h2, _, _ => by omega
  | n + 1, lo, ρ, p, h1, h2, hs, he => by
    rw [upTo_cons]
    by_cases e : lo = q
    · subst e
      obtain ⟨ρ1, k1, k2⟩ := he ρ p
      exact forL_rt k1 k2
    · obtain ⟨ρ1, ρ2, k1, k2, k3⟩ := hs lo ρ (Int.le_refl _) (by omega) p
      exact forL_nx k1 k2 (forL_until P d q n (lo + 1) ρ2 k3 (by omega) (by omega) (fun k ρ j1 j2 => hs k ρ (by omega) j2) he)
theorem m__law_between_eq {a0 a1 b0 b1 : Int} {d : D} (ha : 0 ≤ a0 ∧ a0 ≤ 1000) (ha1 : 1 ≤ a1 ∧ a1 ≤ 1000) (hb : 0 ≤ b0 ∧ b0 ≤ 1000) (hb1 : 1 ≤ b1 ∧ b1 ≤ 1000) (h : BtwR a0 a1 b0 b1 d) (g : G) : m__law_between [tDI [a0, a1], tDI [b0, b1]] g = .ok d g := by
  obtain ⟨p, q, rfl, q1, q2, p1, p2, c1, c2, mn, _⟩ := h
  have up1 : ∀ k : Int, a0 * k < (a0 * k / a1 + 1) * a1 := fun k => Int.lt_ediv_add_one_mul_self (a0 * k) (show 0 < a1 by omega)
  have upq : a0 * q / a1 + 1 = p := by
    have h1 : a0 * q / a1 < p := (Int.ediv_lt_iff_lt_mul (by omega)).mpr c1
    have h2 : (a0 * q / a1 + 1) * b1 ≤ p * b1 := Int.mul_le_mul_of_nonneg_right (by omega) (by omega)
    have := (mn _ q q1 (up1 q) (by omega)).1
    omega
  have bnd : ∀ k : Int, 1 ≤ k → k ≤ 4000 → 0 ≤ a0 * k ∧ a0 * k ≤ 4000000 := fun k h1 h2 => by
    have k1 := Int.mul_le_mul_of_nonneg_left h2 ha.1
    have k2 := Int.mul_nonneg ha.1 (show 0 ≤ k by omega)
    omega
  have body : ∀ (k : Int) (y : SV), 1 ≤ k → k ≤ 4000 → B__law_between_1 [.d (tDI [a0, a1]), .d (tDI [b0, b1]), .d (.int k), y] g = (if (a0 * k / a1 + 1) * b1 < b0 * k then SO.rt (tDI [a0 * k / a1 + 1, k]) g else .nx [.d (tDI [a0, a1]), .d (tDI [b0, b1]), .d (.int k), .d (.int (a0 * k / a1 + 1))] g) := by
    intro k y k1 k2
    have hb2 := bnd k k1 k2
    have s2 : S__law_between_2 [.d (tDI [a0, a1]), .d (tDI [b0, b1]), .d (.int k), y] g = .nx [.d (tDI [a0, a1]), .d (tDI [b0, b1]), .d (.int k), .d (.int (a0 * k / a1 + 1))] g := by
      simp (disch := omega) only [S__law_between_2, tDI, eV_ap, eC_ap, eBin_ap, eNeg_ap, tVal_ap, eIsN_ap, eNotN_ap, eChain_ap, tAndF_ap, tOrF_ap, tNotF_ap, tTru_ap, eAnd_ap, eOr_ap, eNot_ap, eIf_ap, aNil_ap, aCons_ap, eTup_ap, eLst_ap, oNone_ap, oSome_ap, eSl_ap, eCall_ap, iLst_ap, iTpl_ap, iRan2_apN, eOf_ap, oLst_ap, oCat_ap, oRep_ap, oSl_ap, oList_ap, oComp_ap, tYesF_ap, sNil_ap, sSeq_th, sBrk_ap, sCnt_ap, sExpr_ap, sRet_ap, sRetN_ap, sIf_ap, sSet_ap, sSetO_ap, sAsg_ap, sPar_ap, sPar3_ap, sAug_ap, sApp_ap, sExt_ap, sSetIx_ap, sFrz_ap, eIxO_ap, eLenO_ap, eIxA_ap, eLenA_ap, vOf_ap, vCons_ap, vOwn_ap, vOwn2_ap, sTup_ap, iSeq_ap, sRaise_ap, sTry_ap, eExF_ap, tIfF_ap, eRev_ap, eRevA_ap, eRevF_ap, th_nx, th_rt, th_bk, th_ct, th_exc, bind_ok, bind_exc, go_ok, go_exc, opAdd_int, opSub_int, opMul_a, opMul_b, opDiv_pos, opDiv_wide, opMod_pos, opI_int, opEq_int, opNe_int, opEq_bool, opNe_bool, atI_0, atI_1, atI_2, atI_3, opIx_list, opIx_tuple, iRan1_ap, bLen_list, bLen_tuple, bInt_int, bAbs_int, bName, bNil, bCons, bTup, List.getElem?_cons_zero, List.getElem?_cons_succ, List.set_cons_zero, List.set_cons_succ, List.length_cons, List.length_nil, noTok, if_true, if_false, decide_true, decide_false, Bool.not_true, Bool.not_false, setAll, List.map_cons, List.map_nil, truD, Bool.true_eq_false, Bool.false_eq_true, Option.bind_some, true_and, and_true, List.replicate, startR, List.cons_append, List.nil_append, Nat.sub_self, reduceIte, ↓reduceIte, DL.isNon, LIM_eq, and_self, List.map_append, List.length_map, Int.toNat_natCast, Nat.zero_le, Nat.reduceLeDiff, Int.reduceNeg, Int.reduceLE, Int.reduceLT, Int.zero_add, ran1_int, ran2_int, noEx, eq_self, dI, dP, dPs]
    refine seq_nx s2 ?_
    generalize a0 * k / a1 + 1 = U
    have t : tVal (eBin opLt (eBin opMul (eV 3) (eBin opIx (eV 1) (eC (.int 1)))) (eBin opMul (eBin opIx (eV 1) (eC (.int 0))) (eV 2))) [.d (tDI [a0, a1]), .d (tDI [b0, b1]), .d (.int k), .d (.int U)] g = .ok (decide (U * b1 < b0 * k)) g := by
      simp (disch := omega) only [tDI, eV_ap, eC_ap, eBin_ap, eNeg_ap, tVal_ap, eIsN_ap, eNotN_ap, eChain_ap, tAndF_ap, tOrF_ap, tNotF_ap, tTru_ap, eAnd_ap, eOr_ap, eNot_ap, eIf_ap, aNil_ap, aCons_ap, eTup_ap, eLst_ap, oNone_ap, oSome_ap, eSl_ap, eCall_ap, iLst_ap, iTpl_ap, iRan2_apN, eOf_ap, oLst_ap, oCat_ap, oRep_ap, oSl_ap, oList_ap, oComp_ap, tYesF_ap, sNil_ap, sSeq_th, sBrk_ap, sCnt_ap, sExpr_ap, sRet_ap, sRetN_ap, sIf_ap, sSet_ap, sSetO_ap, sAsg_ap, sPar_ap, sPar3_ap, sAug_ap, sApp_ap, sExt_ap, sSetIx_ap, sFrz_ap, eIxO_ap, eLenO_ap, eIxA_ap, eLenA_ap, vOf_ap, vCons_ap, vOwn_ap, vOwn2_ap, sTup_ap, iSeq_ap, sRaise_ap, sTry_ap, eExF_ap, tIfF_ap, eRev_ap, eRevA_ap, eRevF_ap, th_nx, th_rt, th_bk, th_ct, th_exc, bind_ok, bind_exc, go_ok, go_exc, opAdd_int, opSub_int, opMul_a, opMul_b, opDiv_pos, opDiv_wide, opMod_pos, opI_int, opEq_int, opNe_int, opEq_bool, opNe_bool, atI_0, atI_1, atI_2, atI_3, opIx_list, opIx_tuple, iRan1_ap, bLen_list, bLen_tuple, bInt_int, bAbs_int, bName, bNil, bCons, bTup, List.getElem?_cons_zero, List.getElem?_cons_succ, List.set_cons_zero, List.set_cons_succ, List.length_cons, List.length_nil, noTok, if_true, if_false, decide_true, decide_false, Bool.not_true, Bool.not_false, setAll, List.map_cons, List.map_nil, truD, Bool.true_eq_false, Bool.false_eq_true, Option.bind_some, true_and, and_true, List.replicate, startR, List.cons_append, List.nil_append, Nat.sub_self, reduceIte, ↓reduceIte, DL.isNon, LIM_eq, and_self, List.map_append, List.length_map, Int.toNat_natCast, Nat.zero_le, Nat.reduceLeDiff, Int.reduceNeg, Int.reduceLE, Int.reduceLT, Int.zero_add, ran1_int, ran2_int, noEx, eq_self, dI, dP, dPs]
    unfold S__law_between_3
    rw [sIf_ap, t]
    by_cases hc : U * b1 < b0 * k
    · rw [decide_eq_true hc, if_pos hc, go_ok, if_pos rfl]
      show _ = SO.rt (PyData.tuple [.int U, .int k]) g
      simp (disch := omega) only [S__law_between_4, eV_ap, eC_ap, eBin_ap, eNeg_ap, tVal_ap, eIsN_ap, eNotN_ap, eChain_ap, tAndF_ap, tOrF_ap, tNotF_ap, tTru_ap, eAnd_ap, eOr_ap, eNot_ap, eIf_ap, aNil_ap, aCons_ap, eTup_ap, eLst_ap, oNone_ap, oSome_ap, eSl_ap, eCall_ap, iLst_ap, iTpl_ap, iRan2_apN, eOf_ap, oLst_ap, oCat_ap, oRep_ap, oSl_ap, oList_ap, oComp_ap, tYesF_ap, sNil_ap, sSeq_th, sBrk_ap, sCnt_ap, sExpr_ap, sRet_ap, sRetN_ap, sIf_ap, sSet_ap, sSetO_ap, sAsg_ap, sPar_ap, sPar3_ap, sAug_ap, sApp_ap, sExt_ap, sSetIx_ap, sFrz_ap, eIxO_ap, eLenO_ap, eIxA_ap, eLenA_ap, vOf_ap, vCons_ap, vOwn_ap, vOwn2_ap, sTup_ap, iSeq_ap, sRaise_ap, sTry_ap, eExF_ap, tIfF_ap, eRev_ap, eRevA_ap, eRevF_ap, th_nx, th_rt, th_bk, th_ct, th_exc, bind_ok, bind_exc, go_ok, go_exc, opAdd_int, opSub_int, opMul_a, opMul_b, opDiv_pos, opDiv_wide, opMod_pos, opI_int, opEq_int, opNe_int, opEq_bool, opNe_bool, atI_0, atI_1, atI_2, atI_3, opIx_list, opIx_tuple, iRan1_ap, bLen_list, bLen_tuple, bInt_int, bAbs_int, bName, bNil, bCons, bTup, List.getElem?_cons_zero, List.getElem?_cons_succ, List.set_cons_zero, List.set_cons_succ, List.length_cons, List.length_nil, noTok, if_true, if_false, decide_true, decide_false, Bool.not_true, Bool.not_false, setAll, List.map_cons, List.map_nil, truD, Bool.true_eq_false, Bool.false_eq_true, Option.bind_some, true_and, and_true, List.replicate, startR, List.cons_append, List.nil_append, Nat.sub_self, reduceIte, ↓reduceIte, DL.isNon, LIM_eq, and_self, List.map_append, List.length_map, Int.toNat_natCast, Nat.zero_le, Nat.reduceLeDiff, Int.reduceNeg, Int.reduceLE, Int.reduceLT, Int.zero_add, ran1_int, ran2_int, noEx, eq_self, dI, dP, dPs]
    · rw [decide_eq_false hc, if_neg hc]
      rfl
  have hw := forL_until (g := g) (b := bName 2) (f := B__law_between_1) (fun ρ => ∃ x y, ρ = [.d (tDI [a0, a1]), .d (tDI [b0, b1]), x, y]) (tDI [p, q]) q 3999 1 [.d (tDI [a0, a1]), .d (tDI [b0, b1]), .un, .un] ⟨_, _, rfl⟩ q1 (by omega) (by
      rintro k ρ k1 k2 ⟨x, y, rfl⟩
      refine ⟨_, _, rfl, (body k y k1 (by omega)).trans (if_neg fun hc => ?_), _, _, rfl⟩
      have := (mn _ k k1 (up1 k) hc).2
      omega) (by
      rintro ρ ⟨x, y, rfl⟩
      refine ⟨_, rfl, (body q y q1 (by omega)).trans ?_⟩
      rw [upq, if_pos c2])
  have hi : iRan2 (aCons (eC (.int 1)) (aCons (eC (.int 4000)) aNil)) [.d (tDI [a0, a1]), .d (tDI [b0, b1]), .un, .un] g = .ok (DL.upTo 1 3999) g := by
    simp (disch := omega) only [eV_ap, eC_ap, eBin_ap, eNeg_ap, tVal_ap, eIsN_ap, eNotN_ap, eChain_ap, tAndF_ap, tOrF_ap, tNotF_ap, tTru_ap, eAnd_ap, eOr_ap, eNot_ap, eIf_ap, aNil_ap, aCons_ap, eTup_ap, eLst_ap, oNone_ap, oSome_ap, eSl_ap, eCall_ap, iLst_ap, iTpl_ap, iRan2_apN, eOf_ap, oLst_ap, oCat_ap, oRep_ap, oSl_ap, oList_ap, oComp_ap, tYesF_ap, sNil_ap, sSeq_th, sBrk_ap, sCnt_ap, sExpr_ap, sRet_ap, sRetN_ap, sIf_ap, sSet_ap, sSetO_ap, sAsg_ap, sPar_ap, sPar3_ap, sAug_ap, sApp_ap, sExt_ap, sSetIx_ap, sFrz_ap, eIxO_ap, eLenO_ap, eIxA_ap, eLenA_ap, vOf_ap, vCons_ap, vOwn_ap, vOwn2_ap, sTup_ap, iSeq_ap, sRaise_ap, sTry_ap, eExF_ap, tIfF_ap, eRev_ap, eRevA_ap, eRevF_ap, th_nx, th_rt, th_bk, th_ct, th_exc, bind_ok, bind_exc, go_ok, go_exc, opAdd_int, opSub_int, opMul_a, opMul_b, opDiv_pos, opDiv_wide, opMod_pos, opI_int, opEq_int, opNe_int, opEq_bool, opNe_bool, atI_0, atI_1, atI_2, atI_3, opIx_list, opIx_tuple, iRan1_ap, bLen_list, bLen_tuple, bInt_int, bAbs_int, bName, bNil, bCons, bTup, List.getElem?_cons_zero, List.getElem?_cons_succ, List.set_cons_zero, List.set_cons_succ, List.length_cons, List.length_nil, noTok, if_true, if_false, decide_true, decide_false, Bool.not_true, Bool.not_false, setAll, List.map_cons, List.map_nil, truD, Bool.true_eq_false, Bool.false_eq_true, Option.bind_some, true_and, and_true, List.replicate, startR, List.cons_append, List.nil_append, Nat.sub_self, reduceIte, ↓reduceIte, DL.isNon, LIM_eq, and_self, List.map_append, List.length_map, Int.toNat_natCast, Nat.zero_le, Nat.reduceLeDiff, Int.reduceNeg, Int.reduceLE, Int.reduceLT, Int.zero_add, ran1_int, ran2_int, noEx, eq_self, dI, dP, dPs]
    rfl
  refine m_rt (np := 2) rfl (Eq.trans (b := sem__law_between [.d (tDI [a0, a1]), .d (tDI [b0, b1]), .un, .un] g) rfl ?_)
  have := for_eq hi hw
  show (match S__law_between_1 [.d (tDI [a0, a1]), .d (tDI [b0, b1]), .un, .un] g with | .nx ρ' g' => _ | o => o) = _
  rw [show S__law_between_1 [.d (tDI [a0, a1]), .d (tDI [b0, b1]), .un, .un] g = .rt (tDI [p, q]) g from this]
def wayL (l0 l1 h0 h1 : Int) : List Bool → Int × Int
  | [] => (l0 + h0, l1 + h1)
  | true :: s => wayL l0 l1 (l0 + h0) (l1 + h1) s
  | false :: s => wayL (l0 + h0) (l1 + h1) h0 h1 s
theorem wayL_in : ∀ (s : List Bool) (l0 l1 h0 h1 : Int), h0 * l1 - l0 * h1 = 1 → l0 * (wayL l0 l1 h0 h1 s).2 < (wayL l0 l1 h0 h1 s).1 * l1 ∧ (wayL l0 l1 h0 h1 s).1 * h1 < h0 * (wayL l0 l1 h0 h1 s).2
  | [], l0, l1, h0, h1, h => by
    show l0 * (l1 + h1) < (l0 + h0) * l1 ∧ (l0 + h0) * h1 < h0 * (l1 + h1)
    have e1 : l0 * (l1 + h1) = l0 * l1 + l0 * h1 := by grind
    have e2 : (l0 + h0) * l1 = l0 * l1 + h0 * l1 := by grind
    have e3 : (l0 + h0) * h1 = l0 * h1 + h0 * h1 := by grind
    have e4 : h0 * (l1 + h1) = h0 * l1 + h0 * h1 := by grind
    omega
  | true :: s, l0, l1, h0, h1, h => by
    obtain ⟨k1, k2⟩ := wayL_in s l0 l1 (l0 + h0) (l1 + h1) (by grind)
    show l0 * (wayL l0 l1 (l0 + h0) (l1 + h1) s).2 < (wayL l0 l1 (l0 + h0) (l1 + h1) s).1 * l1 ∧ (wayL l0 l1 (l0 + h0) (l1 + h1) s).1 * h1 < h0 * (wayL l0 l1 (l0 + h0) (l1 + h1) s).2
    generalize wayL l0 l1 (l0 + h0) (l1 + h1) s = w at *
    have e3 : w.1 * (l1 + h1) = w.1 * l1 + w.1 * h1 := by grind
    have e4 : (l0 + h0) * w.2 = l0 * w.2 + h0 * w.2 := by grind
    omega
  | false :: s, l0, l1, h0, h1, h => by
    obtain ⟨k1, k2⟩ := wayL_in s (l0 + h0) (l1 + h1) h0 h1 (by grind)
    show l0 * (wayL (l0 + h0) (l1 + h1) h0 h1 s).2 < (wayL (l0 + h0) (l1 + h1) h0 h1 s).1 * l1 ∧ (wayL (l0 + h0) (l1 + h1) h0 h1 s).1 * h1 < h0 * (wayL (l0 + h0) (l1 + h1) h0 h1 s).2
    generalize wayL (l0 + h0) (l1 + h1) h0 h1 s = w at *
    have e3 : w.1 * (l1 + h1) = w.1 * l1 + w.1 * h1 := by grind
    have e4 : (l0 + h0) * w.2 = l0 * w.2 + h0 * w.2 := by grind
    omega
end K46
namespace K46
open PySem
open PySem.Spec
open PyProof.Rows
open L2
open DL
variable {g : G}
def cd (b : Bool) : Nat := if b then 76 else 82
def txt (s : List Bool) : Str := ⟨(s.map cd).toArray⟩
def sg (b : Bool) : Str := ⟨#[cd b]⟩
theorem sg_L : ("L" : Str) = sg true := by decide +kernel
theorem sg_R : ("R" : Str) = sg false := by decide +kernel
theorem chs_txt (s : List Bool) : chs (txt s) = s.map fun b => PyData.str (sg b) := by
  unfold chs txt
  rw [List.map_map]
  rfl
theorem eq_L (b : Bool) : opEq (.str (sg b)) (.str "L") g = .ok (.bool b) g := by
  rw [sg_L, opEq_shp (by cases b <;> decide +kernel) (by decide +kernel)]
  cases b
  · rw [show PyData.eqv (.str (sg false)) (.str (sg true)) = false by decide +kernel]
  · rw [show PyData.eqv (.str (sg true)) (.str (sg true)) = true by decide +kernel]
abbrev B46 := (Int × Int) × (Int × Int)
def stW (c : B46) (b : Bool) : B46 := if b = true then (c.1, (c.1.1 + c.2.1, c.1.2 + c.2.2)) else ((c.1.1 + c.2.1, c.1.2 + c.2.2), c.2)
theorem stW_way : ∀ (s : List Bool) (c : B46), wayL c.1.1 c.1.2 c.2.1 c.2.2 s = ((s.foldl stW c).1.1 + (s.foldl stW c).2.1, (s.foldl stW c).1.2 + (s.foldl stW c).2.2)
  | [], c => rfl
  | true :: s, c => stW_way s (stW c true)
  | false :: s, c => stW_way s (stW c false)
theorem m__law_way_eq (s : List Bool) (g : G) : m__law_way [.str (txt s)] g = .ok (tDI [(wayL 0 1 1 0 s).1, (wayL 0 1 1 0 s).2]) g := by
  obtain ⟨ρ', ⟨y3, y4, rfl⟩, hw⟩ := forL_fold (g := g) (fun b => PyData.str (sg b)) (fun i (c : B46) ρ => ∃ y3 y4, ρ = [.d (.str (txt s)), .d (tDI [c.1.1, c.1.2]), .d (tDI [c.2.1, c.2.2]), y3, y4]) stW (b := bName 3) (f := B__law_way_2) s 0 ((0, 1), (1, 0)) [.d (.str (txt s)), .d (tDI [0, 1]), .d (tDI [1, 0]), .un, .un] ⟨_, _, rfl⟩ (by
    rintro b hb i ⟨⟨l0, l1⟩, ⟨h0, h1⟩⟩ ρ i1 i2 ⟨y3, y4, rfl⟩
    refine ⟨[.d (.str (txt s)), .d (tDI [l0, l1]), .d (tDI [h0, h1]), .d (.str (sg b)), y4], _, rfl, ?_, .d (.str (sg b)), .d (tDI [l0 + h0, l1 + h1]), rfl⟩
    generalize PyData.str (txt s) = T
    have s3 : S__law_way_3 [.d T, .d (tDI [l0, l1]), .d (tDI [h0, h1]), .d (.str (sg b)), y4] g = .nx [.d T, .d (tDI [l0, l1]), .d (tDI [h0, h1]), .d (.str (sg b)), .d (tDI [l0 + h0, l1 + h1])] g := by
      simp (disch := omega) only [S__law_way_3, tDI, eV_ap, eC_ap, eBin_ap, eNeg_ap, tVal_ap, eIsN_ap, eNotN_ap, eChain_ap, tAndF_ap, tOrF_ap, tNotF_ap, tTru_ap, eAnd_ap, eOr_ap, eNot_ap, eIf_ap, aNil_ap, aCons_ap, eTup_ap, eLst_ap, oNone_ap, oSome_ap, eSl_ap, eCall_ap, iLst_ap, iTpl_ap, iRan2_apN, eOf_ap, oLst_ap, oCat_ap, oRep_ap, oSl_ap, oList_ap, oComp_ap, tYesF_ap, sNil_ap, sSeq_th, sBrk_ap, sCnt_ap, sExpr_ap, sRet_ap, sRetN_ap, sIf_ap, sSet_ap, sSetO_ap, sAsg_ap, sPar_ap, sPar3_ap, sAug_ap, sApp_ap, sExt_ap, sSetIx_ap, sFrz_ap, eIxO_ap, eLenO_ap, eIxA_ap, eLenA_ap, vOf_ap, vCons_ap, vOwn_ap, vOwn2_ap, sTup_ap, iSeq_ap, sRaise_ap, sTry_ap, eExF_ap, tIfF_ap, eRev_ap, eRevA_ap, eRevF_ap, th_nx, th_rt, th_bk, th_ct, th_exc, bind_ok, bind_exc, go_ok, go_exc, opAdd_int, opSub_int, opMul_a, opMul_b, opDiv_pos, opDiv_wide, opMod_pos, opI_int, opEq_int, opNe_int, opEq_bool, opNe_bool, atI_0, atI_1, atI_2, atI_3, opIx_list, opIx_tuple, iRan1_ap, bLen_list, bLen_tuple, bInt_int, bAbs_int, bName, bNil, bCons, bTup, List.getElem?_cons_zero, List.getElem?_cons_succ, List.set_cons_zero, List.set_cons_succ, List.length_cons, List.length_nil, noTok, if_true, if_false, decide_true, decide_false, Bool.not_true, Bool.not_false, setAll, List.map_cons, List.map_nil, truD, Bool.true_eq_false, Bool.false_eq_true, Option.bind_some, true_and, and_true, List.replicate, startR, List.cons_append, List.nil_append, Nat.sub_self, reduceIte, ↓reduceIte, DL.isNon, LIM_eq, and_self, List.map_append, List.length_map, Int.toNat_natCast, Nat.zero_le, Nat.reduceLeDiff, Int.reduceNeg, Int.reduceLE, Int.reduceLT, Int.zero_add, ran1_int, ran2_int, noEx, eq_self, dI, dP, dPs]
    refine seq_nx s3 ?_
    have t : tVal (eBin opEq (eV 3) (eC (.str "L"))) [.d T, .d (tDI [l0, l1]), .d (tDI [h0, h1]), .d (.str (sg b)), .d (tDI [l0 + h0, l1 + h1])] g = .ok b g := by
      simp only [tVal_ap, eBin_ap, eV_ap, eC_ap, List.getElem?_cons_succ, List.getElem?_cons_zero, bind_ok, eq_L]
    unfold S__law_way_4
    rw [sIf_ap, t, go_ok]
    cases b <;> rfl)
  have hi : iStrS (eV 0) [.d (.str (txt s)), .d (tDI [0, 1]), .d (tDI [1, 0]), .un, .un] g = .ok (s.map fun b => PyData.str (sg b)) g := by
    rw [← chs_txt]
    rfl
  refine m_rt (np := 1) rfl (Eq.trans (b := sem__law_way [.d (.str (txt s)), .un, .un, .un, .un] g) rfl ?_)
  refine seq_nx (ρ1 := [.d (.str (txt s)), .d (tDI [0, 1]), .d (tDI [1, 0]), .un, .un]) (g1 := g) rfl (seq_nx (for_eq hi hw) ?_)
  rw [stW_way s ((0, 1), (1, 0))]
  generalize s.foldl stW ((0, 1), (1, 0)) = c
  simp (disch := omega) only [S__law_way_7, tDI, eV_ap, eC_ap, eBin_ap, eNeg_ap, tVal_ap, eIsN_ap, eNotN_ap, eChain_ap, tAndF_ap, tOrF_ap, tNotF_ap, tTru_ap, eAnd_ap, eOr_ap, eNot_ap, eIf_ap, aNil_ap, aCons_ap, eTup_ap, eLst_ap, oNone_ap, oSome_ap, eSl_ap, eCall_ap, iLst_ap, iTpl_ap, iRan2_apN, eOf_ap, oLst_ap, oCat_ap, oRep_ap, oSl_ap, oList_ap, oComp_ap, tYesF_ap, sNil_ap, sSeq_th, sBrk_ap, sCnt_ap, sExpr_ap, sRet_ap, sRetN_ap, sIf_ap, sSet_ap, sSetO_ap, sAsg_ap, sPar_ap, sPar3_ap, sAug_ap, sApp_ap, sExt_ap, sSetIx_ap, sFrz_ap, eIxO_ap, eLenO_ap, eIxA_ap, eLenA_ap, vOf_ap, vCons_ap, vOwn_ap, vOwn2_ap, sTup_ap, iSeq_ap, sRaise_ap, sTry_ap, eExF_ap, tIfF_ap, eRev_ap, eRevA_ap, eRevF_ap, th_nx, th_rt, th_bk, th_ct, th_exc, bind_ok, bind_exc, go_ok, go_exc, opAdd_int, opSub_int, opMul_a, opMul_b, opDiv_pos, opDiv_wide, opMod_pos, opI_int, opEq_int, opNe_int, opEq_bool, opNe_bool, atI_0, atI_1, atI_2, atI_3, opIx_list, opIx_tuple, iRan1_ap, bLen_list, bLen_tuple, bInt_int, bAbs_int, bName, bNil, bCons, bTup, List.getElem?_cons_zero, List.getElem?_cons_succ, List.set_cons_zero, List.set_cons_succ, List.length_cons, List.length_nil, noTok, if_true, if_false, decide_true, decide_false, Bool.not_true, Bool.not_false, setAll, List.map_cons, List.map_nil, truD, Bool.true_eq_false, Bool.false_eq_true, Option.bind_some, true_and, and_true, List.replicate, startR, List.cons_append, List.nil_append, Nat.sub_self, reduceIte, ↓reduceIte, DL.isNon, LIM_eq, and_self, List.map_append, List.length_map, Int.toNat_natCast, Nat.zero_le, Nat.reduceLeDiff, Int.reduceNeg, Int.reduceLE, Int.reduceLT, Int.zero_add, ran1_int, ran2_int, noEx, eq_self, dI, dP, dPs]
theorem wayL_bd : ∀ (s : List Bool) (l0 l1 h0 h1 : Int), 0 ≤ l0 → 0 ≤ l1 → 0 ≤ h0 → 0 ≤ h1 → 0 ≤ (wayL l0 l1 h0 h1 s).1 ∧ 0 ≤ (wayL l0 l1 h0 h1 s).2 ∧ (wayL l0 l1 h0 h1 s).1 ≤ (l0 + h0) * 2 ^ s.length ∧ (wayL l0 l1 h0 h1 s).2 ≤ (l1 + h1) * 2 ^ s.length
  | [], l0, l1, h0, h1, a, b, c, d => by
    show 0 ≤ l0 + h0 ∧ 0 ≤ l1 + h1 ∧ l0 + h0 ≤ (l0 + h0) * 2 ^ 0 ∧ l1 + h1 ≤ (l1 + h1) * 2 ^ 0
    omega
  | true :: s, l0, l1, h0, h1, a, b, c, d => by
    obtain ⟨k1, k2, k3, k4⟩ := wayL_bd s l0 l1 (l0 + h0) (l1 + h1) a b (by omega) (by omega)
    rw [List.length_cons, Int.pow_succ]
    have hp : (0 : Int) < 2 ^ s.length := Int.pow_pos (by decide)
    refine ⟨k1, k2, Int.le_trans k3 ?_, Int.le_trans k4 ?_⟩
    · have := Int.mul_le_mul_of_nonneg_right (show l0 + (l0 + h0) ≤ (l0 + h0) * 2 by omega) (Int.le_of_lt hp)
      have e : (l0 + h0) * 2 * 2 ^ s.length = (l0 + h0) * (2 ^ s.length * 2) := by grind
      omega
    · have := Int.mul_le_mul_of_nonneg_right (show l1 + (l1 + h1) ≤ (l1 + h1) * 2 by omega) (Int.le_of_lt hp)
      have e : (l1 + h1) * 2 * 2 ^ s.length = (l1 + h1) * (2 ^ s.length * 2) := by grind
      omega
  | false :: s, l0, l1, h0, h1, a, b, c, d => by
    obtain ⟨k1, k2, k3, k4⟩ := wayL_bd s (l0 + h0) (l1 + h1) h0 h1 (by omega) (by omega) c d
    rw [List.length_cons, Int.pow_succ]
    have hp : (0 : Int) < 2 ^ s.length := Int.pow_pos (by decide)
    refine ⟨k1, k2, Int.le_trans k3 ?_, Int.le_trans k4 ?_⟩
    · have := Int.mul_le_mul_of_nonneg_right (show l0 + h0 + h0 ≤ (l0 + h0) * 2 by omega) (Int.le_of_lt hp)
      have e : (l0 + h0) * 2 * 2 ^ s.length = (l0 + h0) * (2 ^ s.length * 2) := by grind
      omega
    · have := Int.mul_le_mul_of_nonneg_right (show l1 + h1 + h1 ≤ (l1 + h1) * 2 by omega) (Int.le_of_lt hp)
      have e : (l1 + h1) * 2 * 2 ^ s.length = (l1 + h1) * (2 ^ s.length * 2) := by grind
      omega
end K46
namespace K46
open PySem
open PySem.Spec
open PyProof.Rows
open L2
open DL
variable {g : G}
theorem seq_rt {f k : SF} {ρ : RS} {g g1 : G} {d : D} (h : f ρ g = .rt d g1) : sSeq f k ρ g = .rt d g1 := by
  unfold sSeq
  rw [h]
theorem txt_len (s : List Bool) : (txt s).length = s.length := by
  show ((s.map cd).toArray).size = _
  rw [List.size_toArray, List.length_map]
theorem txt_add (s : List Bool) (b : Bool) : txt s ++ sg b = txt (s ++ [b]) := by
  show (⟨(s.map cd).toArray ++ #[cd b]⟩ : Str) = ⟨((s ++ [b]).map cd).toArray⟩
  rw [List.map_append]
  simp
theorem add_txt {s : List Bool} (b : Bool) (h : s.length ≤ 100) : opAdd (.str (txt s)) (.str (sg b)) g = .ok (.str (txt (s ++ [b]))) g := by
  show (if (txt s).length + (sg b).length ≤ LIM then _ else _) = _
  rw [if_pos (by rw [txt_len]; show s.length + 1 ≤ 1000000; omega), txt_add]
theorem m_way_to_eq {s : List Bool} {c : Int} (hs : s.length ≤ 20) (hc : 1 ≤ c ∧ c ≤ 10) (g : G) : m_way_to [.int (c * (wayL 0 1 1 0 s).1), .int (c * (wayL 0 1 1 0 s).2)] g = .ok (.str (txt s)) g := by
  obtain ⟨b1, b2, b3, b4⟩ := wayL_bd s 0 1 1 0 (by decide) (by decide) (by decide) (by decide)
  have hp : (2 : Int) ^ s.length ≤ 1048576 := by
    have : (2 : Int) ^ s.length ≤ 2 ^ 20 := by
      have h := Nat.pow_le_pow_right (show 0 < 2 by decide) hs
      have h2 := Int.ofNat_le.mpr h
      simpa using h2
    exact this
  generalize hw0 : wayL 0 1 1 0 s = w at *
  obtain ⟨p, q⟩ := w
  simp only at b1 b2 b3 b4 ⊢
  have A1 : -18446744073709551616 < c * p ∧ c * p < 18446744073709551616 := by
    have h1 := Int.mul_le_mul_of_nonneg_right hc.2 b1
    have h2 := Int.mul_nonneg (show 0 ≤ c by omega) b1
    omega
  have A2 : -18446744073709551616 < c * q ∧ c * q < 18446744073709551616 := by
    have h1 := Int.mul_le_mul_of_nonneg_right hc.2 b2
    have h2 := Int.mul_nonneg (show 0 ≤ c by omega) b2
    omega
  obtain ⟨d, rfl, hw⟩ := sWhile_end (g := g) (t := W_way_to_2) (f := B_way_to_2) (fun m ρ => ∃ pre t l0 l1 h0 h1 y, pre ++ t = s ∧ wayL l0 l1 h0 h1 t = (p, q) ∧ h0 * l1 - l0 * h1 = 1 ∧ m = t.length ∧ ρ = [.d (.int (c * p)), .d (.int (c * q)), .d (tDI [l0, l1]), .d (tDI [h0, h1]), .d (.str (txt pre)), y]) (fun d => d = .str (txt s)) (by
    rintro m ρ ⟨pre, t, l0, l1, h0, h1, y, e, hwy, det, rfl, rfl⟩
    refine ⟨rfl, ?_⟩
    have hl : pre.length ≤ 20 := by
      have := congrArg List.length e
      rw [List.length_append] at this
      omega
    have s3 : S_way_to_3 [.d (.int (c * p)), .d (.int (c * q)), .d (tDI [l0, l1]), .d (tDI [h0, h1]), .d (.str (txt pre)), y] g = .nx [.d (.int (c * p)), .d (.int (c * q)), .d (tDI [l0, l1]), .d (tDI [h0, h1]), .d (.str (txt pre)), .d (tDI [l0 + h0, l1 + h1])] g := by
      generalize PyData.str (txt pre) = T
      generalize c * p = P
      generalize c * q = Q
      simp (disch := omega) only [S_way_to_3, tDI, eV_ap, eC_ap, eBin_ap, eNeg_ap, tVal_ap, eIsN_ap, eNotN_ap, eChain_ap, tAndF_ap, tOrF_ap, tNotF_ap, tTru_ap, eAnd_ap, eOr_ap, eNot_ap, eIf_ap, aNil_ap, aCons_ap, eTup_ap, eLst_ap, oNone_ap, oSome_ap, eSl_ap, eCall_ap, iLst_ap, iTpl_ap, iRan2_apN, eOf_ap, oLst_ap, oCat_ap, oRep_ap, oSl_ap, oList_ap, oComp_ap, tYesF_ap, sNil_ap, sSeq_th, sBrk_ap, sCnt_ap, sExpr_ap, sRet_ap, sRetN_ap, sIf_ap, sSet_ap, sSetO_ap, sAsg_ap, sPar_ap, sPar3_ap, sAug_ap, sApp_ap, sExt_ap, sSetIx_ap, sFrz_ap, eIxO_ap, eLenO_ap, eIxA_ap, eLenA_ap, vOf_ap, vCons_ap, vOwn_ap, vOwn2_ap, sTup_ap, iSeq_ap, sRaise_ap, sTry_ap, eExF_ap, tIfF_ap, eRev_ap, eRevA_ap, eRevF_ap, th_nx, th_rt, th_bk, th_ct, th_exc, bind_ok, bind_exc, go_ok, go_exc, opAdd_int, opSub_int, opMul_a, opMul_b, opDiv_pos, opDiv_wide, opMod_pos, opI_int, opEq_int, opNe_int, opEq_bool, opNe_bool, atI_0, atI_1, atI_2, atI_3, opIx_list, opIx_tuple, iRan1_ap, bLen_list, bLen_tuple, bInt_int, bAbs_int, bName, bNil, bCons, bTup, List.getElem?_cons_zero, List.getElem?_cons_succ, List.set_cons_zero, List.set_cons_succ, List.length_cons, List.length_nil, noTok, if_true, if_false, decide_true, decide_false, Bool.not_true, Bool.not_false, setAll, List.map_cons, List.map_nil, truD, Bool.true_eq_false, Bool.false_eq_true, Option.bind_some, true_and, and_true, List.replicate, startR, List.cons_append, List.nil_append, Nat.sub_self, reduceIte, ↓reduceIte, DL.isNon, LIM_eq, and_self, List.map_append, List.length_map, Int.toNat_natCast, Nat.zero_le, Nat.reduceLeDiff, Int.reduceNeg, Int.reduceLE, Int.reduceLT, Int.zero_add, ran1_int, ran2_int, noEx, eq_self, dI, dP, dPs]
    have t1 : tVal (eBin opEq (eBin opMul (eV 0) (eBin opIx (eV 5) (eC (.int 1)))) (eBin opMul (eBin opIx (eV 5) (eC (.int 0))) (eV 1))) [.d (.int (c * p)), .d (.int (c * q)), .d (tDI [l0, l1]), .d (tDI [h0, h1]), .d (.str (txt pre)), .d (tDI [l0 + h0, l1 + h1])] g = .ok (decide (c * p * (l1 + h1) = (l0 + h0) * (c * q))) g := by
      generalize PyData.str (txt pre) = T
      generalize c * p = P at *
      generalize c * q = Q at *
      obtain ⟨A1, A1'⟩ := A1
      obtain ⟨A2, A2'⟩ := A2
      simp (disch := omega) only [tDI, eV_ap, eC_ap, eBin_ap, eNeg_ap, tVal_ap, eIsN_ap, eNotN_ap, eChain_ap, tAndF_ap, tOrF_ap, tNotF_ap, tTru_ap, eAnd_ap, eOr_ap, eNot_ap, eIf_ap, aNil_ap, aCons_ap, eTup_ap, eLst_ap, oNone_ap, oSome_ap, eSl_ap, eCall_ap, iLst_ap, iTpl_ap, iRan2_apN, eOf_ap, oLst_ap, oCat_ap, oRep_ap, oSl_ap, oList_ap, oComp_ap, tYesF_ap, sNil_ap, sSeq_th, sBrk_ap, sCnt_ap, sExpr_ap, sRet_ap, sRetN_ap, sIf_ap, sSet_ap, sSetO_ap, sAsg_ap, sPar_ap, sPar3_ap, sAug_ap, sApp_ap, sExt_ap, sSetIx_ap, sFrz_ap, eIxO_ap, eLenO_ap, eIxA_ap, eLenA_ap, vOf_ap, vCons_ap, vOwn_ap, vOwn2_ap, sTup_ap, iSeq_ap, sRaise_ap, sTry_ap, eExF_ap, tIfF_ap, eRev_ap, eRevA_ap, eRevF_ap, th_nx, th_rt, th_bk, th_ct, th_exc, bind_ok, bind_exc, go_ok, go_exc, opAdd_int, opSub_int, opMul_a, opMul_b, opDiv_pos, opDiv_wide, opMod_pos, opI_int, opEq_int, opNe_int, opEq_bool, opNe_bool, atI_0, atI_1, atI_2, atI_3, opIx_list, opIx_tuple, iRan1_ap, bLen_list, bLen_tuple, bInt_int, bAbs_int, bName, bNil, bCons, bTup, List.getElem?_cons_zero, List.getElem?_cons_succ, List.set_cons_zero, List.set_cons_succ, List.length_cons, List.length_nil, noTok, if_true, if_false, decide_true, decide_false, Bool.not_true, Bool.not_false, setAll, List.map_cons, List.map_nil, truD, Bool.true_eq_false, Bool.false_eq_true, Option.bind_some, true_and, and_true, List.replicate, startR, List.cons_append, List.nil_append, Nat.sub_self, reduceIte, ↓reduceIte, DL.isNon, LIM_eq, and_self, List.map_append, List.length_map, Int.toNat_natCast, Nat.zero_le, Nat.reduceLeDiff, Int.reduceNeg, Int.reduceLE, Int.reduceLT, Int.zero_add, ran1_int, ran2_int, noEx, eq_self, dI, dP, dPs]
    have t2 : tVal (eBin opLt (eBin opMul (eV 0) (eBin opIx (eV 5) (eC (.int 1)))) (eBin opMul (eBin opIx (eV 5) (eC (.int 0))) (eV 1))) [.d (.int (c * p)), .d (.int (c * q)), .d (tDI [l0, l1]), .d (tDI [h0, h1]), .d (.str (txt pre)), .d (tDI [l0 + h0, l1 + h1])] g = .ok (decide (c * p * (l1 + h1) < (l0 + h0) * (c * q))) g := by
      generalize PyData.str (txt pre) = T
      generalize c * p = P at *
      generalize c * q = Q at *
      obtain ⟨A1, A1'⟩ := A1
      obtain ⟨A2, A2'⟩ := A2
      simp (disch := omega) only [tDI, eV_ap, eC_ap, eBin_ap, eNeg_ap, tVal_ap, eIsN_ap, eNotN_ap, eChain_ap, tAndF_ap, tOrF_ap, tNotF_ap, tTru_ap, eAnd_ap, eOr_ap, eNot_ap, eIf_ap, aNil_ap, aCons_ap, eTup_ap, eLst_ap, oNone_ap, oSome_ap, eSl_ap, eCall_ap, iLst_ap, iTpl_ap, iRan2_apN, eOf_ap, oLst_ap, oCat_ap, oRep_ap, oSl_ap, oList_ap, oComp_ap, tYesF_ap, sNil_ap, sSeq_th, sBrk_ap, sCnt_ap, sExpr_ap, sRet_ap, sRetN_ap, sIf_ap, sSet_ap, sSetO_ap, sAsg_ap, sPar_ap, sPar3_ap, sAug_ap, sApp_ap, sExt_ap, sSetIx_ap, sFrz_ap, eIxO_ap, eLenO_ap, eIxA_ap, eLenA_ap, vOf_ap, vCons_ap, vOwn_ap, vOwn2_ap, sTup_ap, iSeq_ap, sRaise_ap, sTry_ap, eExF_ap, tIfF_ap, eRev_ap, eRevA_ap, eRevF_ap, th_nx, th_rt, th_bk, th_ct, th_exc, bind_ok, bind_exc, go_ok, go_exc, opAdd_int, opSub_int, opMul_a, opMul_b, opDiv_pos, opDiv_wide, opMod_pos, opI_int, opEq_int, opNe_int, opEq_bool, opNe_bool, atI_0, atI_1, atI_2, atI_3, opIx_list, opIx_tuple, iRan1_ap, bLen_list, bLen_tuple, bInt_int, bAbs_int, bName, bNil, bCons, bTup, List.getElem?_cons_zero, List.getElem?_cons_succ, List.set_cons_zero, List.set_cons_succ, List.length_cons, List.length_nil, noTok, if_true, if_false, decide_true, decide_false, Bool.not_true, Bool.not_false, setAll, List.map_cons, List.map_nil, truD, Bool.true_eq_false, Bool.false_eq_true, Option.bind_some, true_and, and_true, List.replicate, startR, List.cons_append, List.nil_append, Nat.sub_self, reduceIte, ↓reduceIte, DL.isNon, LIM_eq, and_self, List.map_append, List.length_map, Int.toNat_natCast, Nat.zero_le, Nat.reduceLeDiff, Int.reduceNeg, Int.reduceLE, Int.reduceLT, Int.zero_add, ran1_int, ran2_int, noEx, eq_self, dI, dP, dPs]
    have x1 : c * p * (l1 + h1) = c * (p * (l1 + h1)) := Int.mul_assoc _ _ _
    have x2 : (l0 + h0) * (c * q) = c * ((l0 + h0) * q) := by grind
    match t, hwy with
    | [], hwy =>
      left
      have e1 : l0 + h0 = p := congrArg Prod.fst hwy
      have e2 : l1 + h1 = q := congrArg Prod.snd hwy
      refine ⟨.str (txt pre), seq_nx s3 (seq_rt ?_), by rw [← e, List.append_nil]⟩
      unfold S_way_to_4
      rw [sIf_ap, t1, decide_eq_true (by rw [x1, x2, e1, e2]), go_ok, if_pos rfl]
      rfl
    | true :: t, hwy =>
      right
      have hin := (wayL_in t l0 l1 (l0 + h0) (l1 + h1) (by grind)).2
      rw [show wayL l0 l1 (l0 + h0) (l1 + h1) t = (p, q) from hwy] at hin
      have lt : c * (p * (l1 + h1)) < c * ((l0 + h0) * q) := Int.mul_lt_mul_of_pos_left hin (by omega)
      refine ⟨t.length, [.d (.int (c * p)), .d (.int (c * q)), .d (tDI [l0, l1]), .d (tDI [l0 + h0, l1 + h1]), .d (.str (txt (pre ++ [true]))), .d (tDI [l0 + h0, l1 + h1])], Nat.lt_succ_self _, seq_nx s3 ?_, pre ++ [true], t, l0, l1, l0 + h0, l1 + h1, _, by rw [List.append_assoc]; exact e, hwy, by grind, rfl, rfl⟩
      refine seq_nx (ρ1 := [.d (.int (c * p)), .d (.int (c * q)), .d (tDI [l0, l1]), .d (tDI [h0, h1]), .d (.str (txt pre)), .d (tDI [l0 + h0, l1 + h1])]) (g1 := g) ?_ ?_
      · unfold S_way_to_4
        rw [sIf_ap, t1, decide_eq_false (by rw [x1, x2]; omega), go_ok, if_neg (by decide)]
        rfl
      unfold S_way_to_6
      rw [sIf_ap, t2, decide_eq_true (by rw [x1, x2]; exact lt), go_ok, if_pos rfl]
      have e3 : eBin opAdd (eV 4) (eC (.str "L")) [.d (.int (c * p)), .d (.int (c * q)), .d (tDI [l0, l1]), .d (tDI [h0, h1]), .d (.str (txt pre)), .d (tDI [l0 + h0, l1 + h1])] g = .ok (.str (txt (pre ++ [true]))) g := by
        simp only [eBin_ap, eV_ap, eC_ap, List.getElem?_cons_succ, List.getElem?_cons_zero, bind_ok, sg_L]
        exact add_txt true (by omega)
      unfold S_way_to_7
      simp only [sTup_ap, vOf_ap, aCons_ap, aNil_ap, e3, eV_ap, List.getElem?_cons_succ, List.getElem?_cons_zero, bind_ok, go_ok]
      rfl
    | false :: t, hwy =>
      right
      have hin := (wayL_in t (l0 + h0) (l1 + h1) h0 h1 (by grind)).1
      rw [show wayL (l0 + h0) (l1 + h1) h0 h1 t = (p, q) from hwy] at hin
      have lt : c * ((l0 + h0) * q) < c * (p * (l1 + h1)) := Int.mul_lt_mul_of_pos_left hin (by omega)
      refine ⟨t.length, [.d (.int (c * p)), .d (.int (c * q)), .d (tDI [l0 + h0, l1 + h1]), .d (tDI [h0, h1]), .d (.str (txt (pre ++ [false]))), .d (tDI [l0 + h0, l1 + h1])], Nat.lt_succ_self _, seq_nx s3 ?_, pre ++ [false], t, l0 + h0, l1 + h1, h0, h1, _, by rw [List.append_assoc]; exact e, hwy, by grind, rfl, rfl⟩
      refine seq_nx (ρ1 := [.d (.int (c * p)), .d (.int (c * q)), .d (tDI [l0, l1]), .d (tDI [h0, h1]), .d (.str (txt pre)), .d (tDI [l0 + h0, l1 + h1])]) (g1 := g) ?_ ?_
      · unfold S_way_to_4
        rw [sIf_ap, t1, decide_eq_false (by rw [x1, x2]; omega), go_ok, if_neg (by decide)]
        rfl
      unfold S_way_to_6
      rw [sIf_ap, t2, decide_eq_false (by rw [x1, x2]; omega), go_ok, if_neg (by decide)]
      have e3 : eBin opAdd (eV 4) (eC (.str "R")) [.d (.int (c * p)), .d (.int (c * q)), .d (tDI [l0, l1]), .d (tDI [h0, h1]), .d (.str (txt pre)), .d (tDI [l0 + h0, l1 + h1])] g = .ok (.str (txt (pre ++ [false]))) g := by
        simp only [eBin_ap, eV_ap, eC_ap, List.getElem?_cons_succ, List.getElem?_cons_zero, bind_ok, sg_R]
        exact add_txt false (by omega)
      unfold S_way_to_8
      simp only [sTup_ap, vOf_ap, aCons_ap, aNil_ap, e3, eV_ap, List.getElem?_cons_succ, List.getElem?_cons_zero, bind_ok, go_ok]
      rfl) 1000000000000000000000000000000 s.length [.d (.int (c * p)), .d (.int (c * q)), .d (tDI [0, 1]), .d (tDI [1, 0]), .d (.str (txt [])), .un] ⟨[], s, 0, 1, 1, 0, .un, rfl, hw0, by decide, rfl, rfl⟩ (by omega)
  have h0 : ("" : Str) = txt [] := by decide +kernel
  refine m_rt (np := 2) rfl (Eq.trans (b := sem_way_to [.d (.int (c * p)), .d (.int (c * q)), .un, .un, .un, .un] g) rfl ?_)
  refine seq_nx (ρ1 := [.d (.int (c * p)), .d (.int (c * q)), .d (tDI [0, 1]), .d (tDI [1, 0]), .d (.str (txt [])), .un]) (g1 := g) ?_ hw
  rw [← h0]
  rfl
end K46
namespace K46
open PySem
open PySem.Spec
open PyProof.Rows
open L2
open DL
abbrev Want := List (Nat × SV)
def Kn (N : Nat) (want : Want) (ρ : RS) : Prop := ρ.length = N ∧ (∀ w ∈ want, ρ[w.1]? = some w.2) ∧ noEx ρ = true ∧ noOdc ρ = true ∧ noOds ρ = true
def isTok : Option SV → Bool
  | some (.d (.dict [(.none, .none)])) => true
  | _ => false
theorem isTok_of {o : Option SV} (h : isTok o = true) : o = some (.d tokD) := by
  unfold isTok at h
  split at h
  · rfl
  · cases h
def okNx (N : Nat) (o : SO) : Bool := match o with
  | .nx ρ _ => decide (ρ.length = N) && isTok (ρ[1]?) && noEx ρ && noOdc ρ && noOds ρ
  | _ => false
def okRt (o : SO) : Bool := match o with
  | .rt (.bool b) _ => b
  | _ => false
abbrev w0 : Want := [(1, .d tokD)]
theorem kn_ag {N : Nat} {want : Want} {ρ ρ' : RS} (k : Kn N want ρ) (k' : Kn N want ρ') : Ag (want.map (·.1)) ρ ρ' := by
  refine ⟨k.1.trans k'.1.symm, fun i hi => ?_, fun i x hx hs => ?_⟩
  · obtain ⟨w, hw, rfl⟩ := List.mem_map.mp hi
    rw [k.2.1 w hw, k'.2.1 w hw]
  · cases x with
    | ex fs => exact absurd hx (noEx_iff.mp k.2.2.1 i fs)
    | odc fs => exact absurd hx (noOdc_iff.mp k.2.2.2.1 i fs)
    | ods fs => exact absurd hx (noOds_iff.mp k.2.2.2.2 i fs)
    | _ => cases hs
theorem run_check {N : Nat} {m m' : List Nat} {f : SF} {want : Want} {ρ ρ' : RS} {g g' : G} (hf : FrS m m' [] f) (hm : want.map (·.1) = m) (k' : Kn N want ρ') (k : Kn N want ρ) (hc : okNx N (f ρ' g') = true) (hs : 1 ∈ m') : ∃ ρ1, f ρ g = .nx ρ1 g ∧ Kn N w0 ρ1 := by
  unfold okNx at hc
  split at hc
  · rename_i ρ1' g1 he
    simp only [Bool.and_eq_true, decide_eq_true_eq] at hc
    have h := hf ρ ρ' g g' (hm ▸ kn_ag k k')
    rw [he] at h
    obtain ⟨ρ1, e, A⟩ := h
    refine ⟨ρ1, e, A.1.trans hc.1.1.1.1, fun w hw' => ?_, A.noEx hc.1.1.2, A.noOdc hc.1.2, A.noOds hc.2⟩
    rw [List.mem_singleton.mp hw', A.2.1 1 hs, isTok_of hc.1.1.1.2]
  · cases hc
theorem run_rtc {N : Nat} {m m' : List Nat} {f : SF} {want : Want} {ρ ρ' : RS} {g g' : G} (hf : FrS m m' [] f) (hm : want.map (·.1) = m) (k' : Kn N want ρ') (k : Kn N want ρ) (hc : okRt (f ρ' g') = true) : f ρ g = .rt (.bool true) g := by
  unfold okRt at hc
  split at hc
  · rename_i b g1 he
    subst hc
    have h := hf ρ ρ' g g' (hm ▸ kn_ag k k')
    rw [he] at h
    exact h
  · cases hc
theorem kn_sub {N : Nat} {want want' : Want} {ρ : RS} (k : Kn N want ρ) (h : ∀ w ∈ want', w ∈ want) : Kn N want' ρ := ⟨k.1, fun w hw => k.2.1 w (h w hw), k.2.2⟩
theorem kn_set {N : Nat} {want : Want} {ρ : RS} {i : Nat} {x : SV} (k : Kn N want ρ) (hi : i < N) (hx : spc x = false) : Kn N ((i, x) :: want.filter fun w => decide (w.1 ≠ i)) (ρ.set i x) := by
  refine ⟨by rw [List.length_set]; exact k.1, fun w hw => ?_, noEx_iff.mpr fun j fs e => ?_, noOdc_iff.mpr fun j fs e => ?_, noOds_iff.mpr fun j fs e => ?_⟩
  · rcases List.mem_cons.mp hw with rfl | hw
    · rw [List.getElem?_set_self (by rw [k.1]; exact hi)]
    · obtain ⟨h1, h2⟩ := List.mem_filter.mp hw
      rw [decide_eq_true_eq] at h2
      rw [List.getElem?_set_ne (Ne.symm h2)]
      exact k.2.1 w h1
  all_goals
    by_cases c : i = j
    · subst c
      rw [List.getElem?_set_self (by rw [k.1]; exact hi)] at e
      cases e
      cases hx
    · rw [List.getElem?_set_ne c] at e
      first
        | exact noEx_iff.mp k.2.2.1 j fs e
        | exact noOdc_iff.mp k.2.2.2.1 j fs e
        | exact noOds_iff.mp k.2.2.2.2 j fs e
theorem sSeq_assoc (f h k : SF) (ρ : RS) (g : G) : sSeq f (sSeq h k) ρ g = sSeq (sSeq f h) k ρ g := by
  unfold sSeq
  cases f ρ g <;> rfl
def wantR (n : Int) : Want := [(1, .d tokD), (15, .d (.int n))]
def wantT (k : List Int) : Want := [(1, .d tokD), (19, .d (tDI k))]
def st (want : Want) : RS := want.foldl (fun ρ w => ρ.set w.1 w.2) (List.replicate 30 .un)
def blkR : SF := (sSeq S_law_18 (sSeq S_law_19 (sSeq S_law_21 S_law_22)))
def blkT : SF := (sSeq S_law_28 (sSeq S_law_30 (sSeq S_law_31 (sFrz 20 (sSeq S_law_34 (sSeq S_law_36 S_law_37))))))
def blkE : SF := (sSeq S_law_43 (sSeq S_law_48 S_law_49))
theorem frR : FrS [1, 15] [1] [] blkR := fr_weak
 (fr_sSeq (fr_sSet (fr_eLst fr_aNil) (by decide +kernel))
 (fr_sSeq (fr_sFor (fr_iRan2 (fr_aCons fr_eC (fr_aCons (fr_eBin gp_add (fr_eV (by decide +kernel)) fr_eC) fr_aNil))) (by decide +kernel) fr_bName (show FrS _ _ _ (sSet 16 (eBin opAdd (eV 16) (eOf C_law_2))) from (fr_sSet (fr_eBin gp_add (fr_eV (by decide +kernel)) (fr_eOf (fr_oComp (fr_iRan1 (fr_aCons (fr_eBin gp_add (fr_eV (by decide +kernel)) fr_eC) fr_aNil)) fr_bName (fr_tVal (fr_eBin gp_eq (fr_eCall gp__law_divisor (fr_aCons (fr_eV (by decide +kernel)) (fr_aCons (fr_eV (by decide +kernel)) fr_aNil))) fr_eC)) (fr_eTup (fr_aCons (fr_eV (by decide +kernel)) (fr_aCons (fr_eV (by decide +kernel)) fr_aNil)))))) (by decide +kernel))) (by decide +kernel))
 (fr_sSeq (fr_sSet (fr_eCall gp_row_of_parts (fr_aCons (fr_eV (by decide +kernel)) fr_aNil)) (by decide +kernel))
 (fr_sIf (fr_tOrF (fr_tVal (fr_eBin gp_ne (fr_eCall gp_sortA (fr_aCons (fr_eV (by decide +kernel)) fr_aNil)) (fr_eCall gp_sortA (fr_aCons (fr_eV (by decide +kernel)) fr_aNil)))) (fr_tVal (fr_eBin gp_I (fr_eCall gp_len (fr_aCons (fr_eOf (fr_oComp (fr_iRan1 (fr_aCons (fr_eBin gp_sub (fr_eCall gp_len (fr_aCons (fr_eV (by decide +kernel)) fr_aNil)) fr_eC) fr_aNil)) fr_bName (fr_tVal (fr_eBin gp_ne (fr_eBin gp_sub (fr_eBin gp_mul (fr_eBin gp_ix (fr_eBin gp_ix (fr_eV (by decide +kernel)) (fr_eBin gp_add (fr_eV (by decide +kernel)) fr_eC)) fr_eC) (fr_eBin gp_ix (fr_eBin gp_ix (fr_eV (by decide +kernel)) (fr_eV (by decide +kernel))) fr_eC)) (fr_eBin gp_mul (fr_eBin gp_ix (fr_eBin gp_ix (fr_eV (by decide +kernel)) (fr_eV (by decide +kernel))) fr_eC) (fr_eBin gp_ix (fr_eBin gp_ix (fr_eV (by decide +kernel)) (fr_eBin gp_add (fr_eV (by decide +kernel)) fr_eC)) fr_eC))) fr_eC)) (fr_eV (by decide +kernel)))) fr_aNil)) fr_eC))) (by decide +kernel) (fr_sRet fr_eC (by decide +kernel)) (by decide +kernel) fr_sNil (by decide +kernel))))) (by decide +kernel)
theorem frT : FrS [1, 19] [1] [] blkT := fr_weak
 (fr_sSeq (fr_sIf (fr_tVal (fr_eBin gp_notB (fr_eCall gp_is_three (fr_aCons (fr_eV (by decide +kernel)) fr_aNil)) fr_eC)) (by decide +kernel) (fr_sRet fr_eC (by decide +kernel)) (by decide +kernel) fr_sNil (by decide +kernel))
 (fr_sSeq (fr_sSetO (fr_oLst fr_aNil) (by decide +kernel))
 (fr_sSeq (fr_sFor (fr_iRan1 (fr_aCons fr_eC fr_aNil)) (by decide +kernel) fr_bName (fr_sSeq (fr_sAsg (fr_eOf (fr_oComp (fr_iRan1 (fr_aCons fr_eC fr_aNil)) fr_bName (fr_tVal (fr_eBin gp_ne (fr_eV (by decide +kernel)) (fr_eV (by decide +kernel)))) (fr_eBin gp_ix (fr_eV (by decide +kernel)) (fr_eV (by decide +kernel))))) (by decide +kernel) (fr_bUnl (fr_bCons fr_bName (fr_bCons fr_bName fr_bNil))))
 (fr_sApp (by decide +kernel) (fr_eCall gp_tuple (fr_aCons (fr_eCall gp_sortA (fr_aCons (fr_eTup (fr_aCons (fr_eV (by decide +kernel)) (fr_aCons (fr_eV (by decide +kernel)) (fr_aCons (fr_eBin gp_sub (fr_eBin gp_mul (fr_eBin gp_mul fr_eC (fr_eV (by decide +kernel))) (fr_eV (by decide +kernel))) (fr_eBin gp_ix (fr_eV (by decide +kernel)) (fr_eV (by decide +kernel)))) fr_aNil)))) fr_aNil)) fr_aNil)) (by decide +kernel))) (by decide +kernel))
 (fr_sFrz (by decide +kernel) (fr_sSeq (fr_sIf (fr_tOrF (fr_tVal (fr_eBin gp_ne (fr_eCall gp_beside (fr_aCons (fr_eV (by decide +kernel)) fr_aNil)) (fr_eCall gp_sortSetT (fr_aCons (fr_eV (by decide +kernel)) fr_aNil)))) (fr_tVal (fr_eBin gp_I (fr_eCall gp_len (fr_aCons (fr_eOf (fr_oComp (fr_iSeq (fr_eV (by decide +kernel))) fr_bName (fr_tVal (fr_eBin gp_notB (fr_eCall gp_is_three (fr_aCons (fr_eV (by decide +kernel)) fr_aNil)) fr_eC)) (fr_eV (by decide +kernel)))) fr_aNil)) fr_eC))) (by decide +kernel) (fr_sRet fr_eC (by decide +kernel)) (by decide +kernel) fr_sNil (by decide +kernel))
 (fr_sSeq (fr_sSet (fr_eCall gp_way_down (fr_aCons (fr_eV (by decide +kernel)) fr_aNil)) (by decide +kernel))
 (fr_sIf (fr_tOrF (fr_tVal (fr_eBin gp_ne (fr_eBin gp_ix (fr_eV (by decide +kernel)) fr_eC) (fr_eV (by decide +kernel)))) (fr_tOrF (fr_tVal (fr_eBin gp_ne (fr_eBin gp_ix (fr_eV (by decide +kernel)) (fr_eNeg fr_eC)) (fr_eTup (fr_aCons fr_eC (fr_aCons fr_eC (fr_aCons fr_eC fr_aNil)))))) (fr_tVal (fr_eBin gp_I (fr_eCall gp_len (fr_aCons (fr_eOf (fr_oComp (fr_iRan1 (fr_aCons (fr_eBin gp_sub (fr_eCall gp_len (fr_aCons (fr_eV (by decide +kernel)) fr_aNil)) fr_eC) fr_aNil)) fr_bName (fr_tOrF (fr_tVal (fr_eBin gp_in (fr_eBin gp_ix (fr_eV (by decide +kernel)) (fr_eBin gp_add (fr_eV (by decide +kernel)) fr_eC)) (fr_eCall gp_beside (fr_aCons (fr_eBin gp_ix (fr_eV (by decide +kernel)) (fr_eV (by decide +kernel))) fr_aNil)))) (fr_tAndF (fr_tVal (fr_eBin gp_I (fr_eBin gp_ix (fr_eBin gp_ix (fr_eV (by decide +kernel)) (fr_eBin gp_add (fr_eV (by decide +kernel)) fr_eC)) fr_eC) (fr_eBin gp_ix (fr_eBin gp_ix (fr_eV (by decide +kernel)) (fr_eV (by decide +kernel))) fr_eC))) (fr_tVal (fr_eBin gp_ne (fr_eBin gp_ix (fr_eV (by decide +kernel)) (fr_eV (by decide +kernel))) (fr_eTup (fr_aCons fr_eC (fr_aCons fr_eC (fr_aCons fr_eC fr_aNil)))))))) (fr_eV (by decide +kernel)))) fr_aNil)) fr_eC)))) (by decide +kernel) (fr_sRet fr_eC (by decide +kernel)) (by decide +kernel) fr_sNil (by decide +kernel)))))))) (by decide +kernel)
theorem frE : ∃ m2, FrS [1] m2 [] blkE := ⟨_, 
 (fr_sSeq (fr_sTry (by decide +kernel) (fr_sSeq (fr_sExpr (fr_eCall gp_way_down (fr_aCons (fr_eTup (fr_aCons fr_eC (fr_aCons fr_eC (fr_aCons fr_eC fr_aNil)))) fr_aNil)) (by decide +kernel))
 (fr_sRet fr_eC (by decide +kernel))) (by decide +kernel) (fr_sIf (fr_tVal (fr_eBin gp_ne (fr_eExF (by decide +kernel)) fr_eC)) (by decide +kernel) (fr_sRet fr_eC (by decide +kernel)) (by decide +kernel) fr_sNil (by decide +kernel)) (by decide +kernel))
 (fr_sSeq (fr_sSet (fr_eLst (fr_aCons fr_eC (fr_aCons (fr_eTup fr_aNil) (fr_aCons (fr_eTup (fr_aCons fr_eC (fr_aCons fr_eC fr_aNil))) (fr_aCons (fr_eLst (fr_aCons fr_eC (fr_aCons fr_eC (fr_aCons fr_eC fr_aNil)))) (fr_aCons (fr_eTup (fr_aCons fr_eC (fr_aCons fr_eC (fr_aCons fr_eC fr_aNil)))) (fr_aCons (fr_eTup (fr_aCons fr_eC (fr_aCons fr_eC (fr_aCons fr_eC fr_aNil)))) (fr_aCons (fr_eTup (fr_aCons fr_eC (fr_aCons fr_eC (fr_aCons fr_eC fr_aNil)))) (fr_aCons (fr_eTup (fr_aCons fr_eC (fr_aCons fr_eC (fr_aCons fr_eC fr_aNil)))) (fr_aCons (fr_eTup (fr_aCons fr_eC (fr_aCons fr_eC (fr_aCons fr_eC (fr_aCons fr_eC fr_aNil))))) fr_aNil)))))))))) (by decide +kernel))
 (fr_sRet (fr_eAnd (fr_eCall gp_all (fr_aCons (fr_eOf (fr_oComp (fr_iSeq (fr_eV (by decide +kernel))) fr_bName fr_tYesF (fr_eBin gp_isB (fr_eCall gp_is_three (fr_aCons (fr_eV (by decide +kernel)) fr_aNil)) fr_eC))) fr_aNil)) (fr_eBin gp_eq (fr_eCall gp_threes (fr_aCons fr_eC fr_aNil)) (fr_eLst (fr_aCons (fr_eTup (fr_aCons fr_eC (fr_aCons fr_eC (fr_aCons fr_eC fr_aNil)))) (fr_aCons (fr_eTup (fr_aCons fr_eC (fr_aCons fr_eC (fr_aCons fr_eC fr_aNil)))) (fr_aCons (fr_eTup (fr_aCons fr_eC (fr_aCons fr_eC (fr_aCons fr_eC fr_aNil)))) (fr_aCons (fr_eTup (fr_aCons fr_eC (fr_aCons fr_eC (fr_aCons fr_eC fr_aNil)))) (fr_aCons (fr_eTup (fr_aCons fr_eC (fr_aCons fr_eC (fr_aCons fr_eC fr_aNil)))) (fr_aCons (fr_eTup (fr_aCons fr_eC (fr_aCons fr_eC (fr_aCons fr_eC fr_aNil)))) fr_aNil))))))))) (by decide +kernel))))⟩
theorem okR_1 : okNx 30 (blkR (st (wantR 1)) (0, [])) = true := by decide +kernel
theorem okR_2 : okNx 30 (blkR (st (wantR 2)) (0, [])) = true := by decide +kernel
theorem okR_3 : okNx 30 (blkR (st (wantR 3)) (0, [])) = true := by decide +kernel
theorem okR_4 : okNx 30 (blkR (st (wantR 4)) (0, [])) = true := by decide +kernel
theorem okR_5 : okNx 30 (blkR (st (wantR 5)) (0, [])) = true := by decide +kernel
theorem okR_6 : okNx 30 (blkR (st (wantR 6)) (0, [])) = true := by decide +kernel
theorem okR_7 : okNx 30 (blkR (st (wantR 7)) (0, [])) = true := by decide +kernel
theorem okR_8 : okNx 30 (blkR (st (wantR 8)) (0, [])) = true := by decide +kernel
theorem okR_9 : okNx 30 (blkR (st (wantR 9)) (0, [])) = true := by decide +kernel
theorem okR_10 : okNx 30 (blkR (st (wantR 10)) (0, [])) = true := by decide +kernel
theorem okR_11 : okNx 30 (blkR (st (wantR 11)) (0, [])) = true := by decide +kernel
theorem okR_12 : okNx 30 (blkR (st (wantR 12)) (0, [])) = true := by decide +kernel
theorem okR_13 : okNx 30 (blkR (st (wantR 13)) (0, [])) = true := by decide +kernel
theorem okR_14 : okNx 30 (blkR (st (wantR 14)) (0, [])) = true := by decide +kernel
theorem okT_0 : okNx 30 (blkT (st (wantT [1, 1, 1])) (0, [])) = true := by decide +kernel
theorem okT_1 : okNx 30 (blkT (st (wantT [1, 1, 2])) (0, [])) = true := by decide +kernel
theorem okT_2 : okNx 30 (blkT (st (wantT [1, 2, 5])) (0, [])) = true := by decide +kernel
theorem okT_3 : okNx 30 (blkT (st (wantT [1, 5, 13])) (0, [])) = true := by decide +kernel
theorem okT_4 : okNx 30 (blkT (st (wantT [1, 13, 34])) (0, [])) = true := by decide +kernel
theorem okT_5 : okNx 30 (blkT (st (wantT [1, 34, 89])) (0, [])) = true := by decide +kernel
theorem okT_6 : okNx 30 (blkT (st (wantT [1, 89, 233])) (0, [])) = true := by decide +kernel
theorem okT_7 : okNx 30 (blkT (st (wantT [1, 233, 610])) (0, [])) = true := by decide +kernel
theorem okT_8 : okNx 30 (blkT (st (wantT [1, 610, 1597])) (0, [])) = true := by decide +kernel
theorem okT_9 : okNx 30 (blkT (st (wantT [1, 1597, 4181])) (0, [])) = true := by decide +kernel
theorem okT_10 : okNx 30 (blkT (st (wantT [1, 4181, 10946])) (0, [])) = true := by decide +kernel
theorem okT_11 : okNx 30 (blkT (st (wantT [1, 10946, 28657])) (0, [])) = true := by decide +kernel
theorem okT_12 : okNx 30 (blkT (st (wantT [1, 28657, 75025])) (0, [])) = true := by decide +kernel
theorem okT_13 : okNx 30 (blkT (st (wantT [2, 5, 29])) (0, [])) = true := by decide +kernel
theorem okT_14 : okNx 30 (blkT (st (wantT [2, 29, 169])) (0, [])) = true := by decide +kernel
theorem okT_15 : okNx 30 (blkT (st (wantT [2, 169, 985])) (0, [])) = true := by decide +kernel
theorem okT_16 : okNx 30 (blkT (st (wantT [2, 985, 5741])) (0, [])) = true := by decide +kernel
theorem okT_17 : okNx 30 (blkT (st (wantT [2, 5741, 33461])) (0, [])) = true := by decide +kernel
theorem okT_18 : okNx 30 (blkT (st (wantT [5, 13, 194])) (0, [])) = true := by decide +kernel
theorem okT_19 : okNx 30 (blkT (st (wantT [5, 29, 433])) (0, [])) = true := by decide +kernel
theorem okT_20 : okNx 30 (blkT (st (wantT [5, 194, 2897])) (0, [])) = true := by decide +kernel
theorem okT_21 : okNx 30 (blkT (st (wantT [5, 433, 6466])) (0, [])) = true := by decide +kernel
theorem okT_22 : okNx 30 (blkT (st (wantT [5, 2897, 43261])) (0, [])) = true := by decide +kernel
theorem okT_23 : okNx 30 (blkT (st (wantT [5, 6466, 96557])) (0, [])) = true := by decide +kernel
theorem okT_24 : okNx 30 (blkT (st (wantT [13, 34, 1325])) (0, [])) = true := by decide +kernel
theorem okT_25 : okNx 30 (blkT (st (wantT [13, 194, 7561])) (0, [])) = true := by decide +kernel
theorem okT_26 : okNx 30 (blkT (st (wantT [13, 1325, 51641])) (0, [])) = true := by decide +kernel
theorem okT_27 : okNx 30 (blkT (st (wantT [29, 169, 14701])) (0, [])) = true := by decide +kernel
theorem okT_28 : okNx 30 (blkT (st (wantT [29, 433, 37666])) (0, [])) = true := by decide +kernel
theorem okT_29 : okNx 30 (blkT (st (wantT [34, 89, 9077])) (0, [])) = true := by decide +kernel
theorem okT_30 : okNx 30 (blkT (st (wantT [89, 233, 62210])) (0, [])) = true := by decide +kernel
theorem okE : okRt (blkE (st w0) (0, [])) = true := by decide +kernel
theorem okR_all {n : Int} (h1 : 1 ≤ n) (h2 : n ≤ 14) : okNx 30 (blkR (st (wantR n)) (0, [])) = true := by
  rcases (show n = 1 ∨ n = 2 ∨ n = 3 ∨ n = 4 ∨ n = 5 ∨ n = 6 ∨ n = 7 ∨ n = 8 ∨ n = 9 ∨ n = 10 ∨ n = 11 ∨ n = 12 ∨ n = 13 ∨ n = 14 by omega) with rfl | rfl | rfl | rfl | rfl | rfl | rfl | rfl | rfl | rfl | rfl | rfl | rfl | rfl
  · exact okR_1
  · exact okR_2
  · exact okR_3
  · exact okR_4
  · exact okR_5
  · exact okR_6
  · exact okR_7
  · exact okR_8
  · exact okR_9
  · exact okR_10
  · exact okR_11
  · exact okR_12
  · exact okR_13
  · exact okR_14
theorem okT_all : ∀ k ∈ T46, okNx 30 (blkT (st (wantT k)) (0, [])) = true := by
  intro k h
  unfold T46 at h
  simp only [List.mem_cons, List.not_mem_nil, or_false] at h
  rcases h with rfl | rfl | rfl | rfl | rfl | rfl | rfl | rfl | rfl | rfl | rfl | rfl | rfl | rfl | rfl | rfl | rfl | rfl | rfl | rfl | rfl | rfl | rfl | rfl | rfl | rfl | rfl | rfl | rfl | rfl | rfl
  · exact okT_0
  · exact okT_1
  · exact okT_2
  · exact okT_3
  · exact okT_4
  · exact okT_5
  · exact okT_6
  · exact okT_7
  · exact okT_8
  · exact okT_9
  · exact okT_10
  · exact okT_11
  · exact okT_12
  · exact okT_13
  · exact okT_14
  · exact okT_15
  · exact okT_16
  · exact okT_17
  · exact okT_18
  · exact okT_19
  · exact okT_20
  · exact okT_21
  · exact okT_22
  · exact okT_23
  · exact okT_24
  · exact okT_25
  · exact okT_26
  · exact okT_27
  · exact okT_28
  · exact okT_29
  · exact okT_30
end K46
namespace K46
open PySem
open PySem.Spec
open PyProof.Rows
open L2
open DL
theorem pick_any {α : Type} (F : α → D) {row : List α} {g : G} (hn : row ≠ []) (hl : row.length ≤ 1000) : ∃ x g', x ∈ row ∧ m__law_pick [tokD, .list (row.map F)] g = .ok (F x) g' := by
  have h0 : 0 < row.length := List.length_pos_iff.mpr hn
  obtain ⟨r, g', e, r0, r1⟩ := take_ok (row.length : Int) g (by omega)
  obtain ⟨i, hi⟩ : ∃ i : Nat, r = (i : Int) := ⟨r.toNat, by omega⟩
  have hlt : i < row.length := by omega
  refine ⟨row[i], g', List.getElem_mem hlt, ?_⟩
  have ea : atI (row.map F) r = some (F row[i]) := by
    rw [atI_n r0, List.getElem?_map, show r.toNat = i by omega, List.getElem?_eq_getElem hlt]
    rfl
  have eb : bLen [.list (row.map F)] g = .ok (.int (row.length : Nat)) g := by
    show Out.ok (PyData.int (((row.map F).length : Nat) : Int)) g = _
    rw [List.length_map]
  refine m_rt (np := 2) rfl ?_
  obtain ⟨n, hn⟩ : ∃ n : Int, n = (row.length : Nat) := ⟨_, rfl⟩
  rw [← hn] at e eb
  refine Eq.trans (b := sem__law_pick [.d tokD, .d (.list (row.map F))] g) rfl ?_
  have el : opIx (.list (row.map F)) (.int r) g' = .ok (F row[i]) g' := by
    show (match atI (row.map F) r with | some d => Out.ok d g' | none => .bad) = _
    rw [ea]
  generalize F row[i] = R at *
  generalize row.map F = L at *
  simp (disch := omega) only [sem__law_pick, S__law_pick_1, e, eb, el, eV_ap, eC_ap, eBin_ap, eNeg_ap, tVal_ap, eIsN_ap, eNotN_ap, eChain_ap, tAndF_ap, tOrF_ap, tNotF_ap, tTru_ap, eAnd_ap, eOr_ap, eNot_ap, eIf_ap, aNil_ap, aCons_ap, eTup_ap, eLst_ap, oNone_ap, oSome_ap, eSl_ap, eCall_ap, iLst_ap, iTpl_ap, iRan2_apN, eOf_ap, oLst_ap, oCat_ap, oRep_ap, oSl_ap, oList_ap, oComp_ap, tYesF_ap, sNil_ap, sSeq_th, sBrk_ap, sCnt_ap, sExpr_ap, sRet_ap, sRetN_ap, sIf_ap, sSet_ap, sSetO_ap, sAsg_ap, sPar_ap, sPar3_ap, sAug_ap, sApp_ap, sExt_ap, sSetIx_ap, sFrz_ap, eIxO_ap, eLenO_ap, eIxA_ap, eLenA_ap, vOf_ap, vCons_ap, vOwn_ap, vOwn2_ap, sTup_ap, iSeq_ap, sRaise_ap, sTry_ap, eExF_ap, tIfF_ap, eRev_ap, eRevA_ap, eRevF_ap, th_nx, th_rt, th_bk, th_ct, th_exc, bind_ok, bind_exc, go_ok, go_exc, opAdd_int, opSub_int, opMul_a, opMul_b, opDiv_pos, opDiv_wide, opMod_pos, opI_int, opEq_int, opNe_int, opEq_bool, opNe_bool, atI_0, atI_1, atI_2, atI_3, iRan1_ap, bLen_tuple, bInt_int, bAbs_int, bName, bNil, bCons, bTup, List.getElem?_cons_zero, List.getElem?_cons_succ, List.set_cons_zero, List.set_cons_succ, List.length_cons, List.length_nil, noTok, if_true, if_false, decide_true, decide_false, Bool.not_true, Bool.not_false, setAll, List.map_cons, List.map_nil, truD, Bool.true_eq_false, Bool.false_eq_true, Option.bind_some, true_and, and_true, List.replicate, startR, List.cons_append, List.nil_append, Nat.sub_self, reduceIte, ↓reduceIte, DL.isNon, LIM_eq, and_self, List.map_append, List.length_map, Int.toNat_natCast, Nat.zero_le, Nat.reduceLeDiff, Int.reduceNeg, Int.reduceLE, Int.reduceLT, Int.zero_add, ran1_int, ran2_int, noEx, eq_self, dI, dP, dPs]
variable {g : G} {ρ : RS}
theorem segA (k : Kn 30 w0 ρ) (g : G) : ∃ ρ' g', sSeq S_law_2 (sSeq S_law_3 (sSeq S_law_4 S_law_5)) ρ g = .nx ρ' g' ∧ Kn 30 w0 ρ' := by
  obtain ⟨m, g1, hm, e1⟩ := pick_any PyData.int (row := [9, 60, 100000]) (g := g) (by decide) (by decide)
  have h1 := k.2.1 (1, .d tokD) (by simp)
  have s2 : S_law_2 ρ g = .nx (ρ.set 3 (.d (.int m))) g1 := by
    have el : eLst (aCons (eC (.int 9)) (aCons (eC (.int 60)) (aCons (eC (.int 100000)) aNil))) ρ g = .ok (.list ([9, 60, 100000].map .int)) g := by simp (disch := omega) only [eV_ap, eC_ap, eBin_ap, eNeg_ap, tVal_ap, eIsN_ap, eNotN_ap, eChain_ap, tAndF_ap, tOrF_ap, tNotF_ap, tTru_ap, eAnd_ap, eOr_ap, eNot_ap, eIf_ap, aNil_ap, aCons_ap, eTup_ap, eLst_ap, oNone_ap, oSome_ap, eSl_ap, eCall_ap, iLst_ap, iTpl_ap, iRan2_apN, eOf_ap, oLst_ap, oCat_ap, oRep_ap, oSl_ap, oList_ap, oComp_ap, tYesF_ap, sNil_ap, sSeq_th, sBrk_ap, sCnt_ap, sExpr_ap, sRet_ap, sRetN_ap, sIf_ap, sSet_ap, sSetO_ap, sAsg_ap, sPar_ap, sPar3_ap, sAug_ap, sApp_ap, sExt_ap, sSetIx_ap, sFrz_ap, eIxO_ap, eLenO_ap, eIxA_ap, eLenA_ap, vOf_ap, vCons_ap, vOwn_ap, vOwn2_ap, sTup_ap, iSeq_ap, sRaise_ap, sTry_ap, eExF_ap, tIfF_ap, eRev_ap, eRevA_ap, eRevF_ap, th_nx, th_rt, th_bk, th_ct, th_exc, bind_ok, bind_exc, go_ok, go_exc, opAdd_int, opSub_int, opMul_a, opMul_b, opDiv_pos, opDiv_wide, opMod_pos, opI_int, opEq_int, opNe_int, opEq_bool, opNe_bool, atI_0, atI_1, atI_2, atI_3, opIx_list, opIx_tuple, iRan1_ap, bLen_list, bLen_tuple, bInt_int, bAbs_int, bName, bNil, bCons, bTup, List.getElem?_cons_zero, List.getElem?_cons_succ, List.set_cons_zero, List.set_cons_succ, List.length_cons, List.length_nil, noTok, if_true, if_false, decide_true, decide_false, Bool.not_true, Bool.not_false, setAll, List.map_cons, List.map_nil, truD, Bool.true_eq_false, Bool.false_eq_true, Option.bind_some, true_and, and_true, List.replicate, startR, List.cons_append, List.nil_append, Nat.sub_self, reduceIte, ↓reduceIte, DL.isNon, LIM_eq, and_self, List.map_append, List.length_map, Int.toNat_natCast, Nat.zero_le, Nat.reduceLeDiff, Int.reduceNeg, Int.reduceLE, Int.reduceLT, Int.zero_add, ran1_int, ran2_int, noEx, eq_self, dI, dP, dPs]
    simp only [S_law_2, sSet_ap, eCall_ap, aCons_ap, aNil_ap, eV_ap, h1, bind_ok, el, e1, go_ok]
  have k2 := kn_set k (i := 3) (x := .d (.int m)) (by decide) rfl
  have hm2 : 1 ≤ m ∧ m ≤ 100000 := by
    simp only [List.mem_cons, List.not_mem_nil, or_false] at hm
    omega
  generalize ρ.set 3 (.d (.int m)) = ρ2 at *
  obtain ⟨a, g2, e2, a0, a1⟩ := take_ok m g1 (by omega)
  obtain ⟨b, g3, e3, b0, b1⟩ := take_ok m g2 (by omega)
  have h1 := k2.2.1 (1, .d tokD) (by simp)
  have h3 := k2.2.1 (3, .d (.int m)) (by simp)
  have s3 : S_law_3 ρ2 g1 = .nx ((ρ2.set 4 (.d (.int a))).set 5 (.d (.int (1 + b)))) g3 := by
    simp only [S_law_3, sTup_ap, vOf_ap, eCall_ap, aCons_ap, aNil_ap, eBin_ap, eC_ap, eV_ap, h1, h3, bind_ok, e2, e3, go_ok, opAdd_int]
    rfl
  have k3 := kn_set (kn_set k2 (i := 4) (x := .d (.int a)) (by decide) rfl) (i := 5) (x := .d (.int (1 + b))) (by decide) rfl
  generalize (ρ2.set 4 (.d (.int a))).set 5 (.d (.int (1 + b))) = ρ3 at *
  obtain ⟨n, g4, e4, n0, n1⟩ := take_ok 60 g3 (by omega)
  have h1 := k3.2.1 (1, .d tokD) (by simp)
  have s4 : S_law_4 ρ3 g3 = .nx (ρ3.set 6 (.d (.int (1 + n)))) g4 := by
    simp only [S_law_4, sSet_ap, eCall_ap, aCons_ap, aNil_ap, eBin_ap, eC_ap, eV_ap, h1, bind_ok, e4, go_ok, opAdd_int]
  have k4 := kn_set k3 (i := 6) (x := .d (.int (1 + n))) (by decide) rfl
  generalize ρ3.set 6 (.d (.int (1 + n))) = ρ4 at *
  obtain ⟨L, q1, q2⟩ := best_eq (a := a) (b := 1 + b) (m := 1 + n) ⟨a0, by omega⟩ ⟨by omega, by omega⟩ ⟨by omega, by omega⟩ g4
  have h4 := k4.2.1 (4, .d (.int a)) (by simp)
  have h5 := k4.2.1 (5, .d (.int (1 + b))) (by simp)
  have h6 := k4.2.1 (6, .d (.int (1 + n))) (by simp)
  have s5 : S_law_5 ρ4 g4 = .nx ρ4 g4 := by
    have t : tVal (eBin opNe (eCall m_best_parts (aCons (eV 4) (aCons (eV 5) (aCons (eV 6) aNil)))) (eCall m__law_best (aCons (eV 4) (aCons (eV 5) (aCons (eV 6) aNil))))) ρ4 g4 = .ok false g4 := by
      simp only [tVal_ap, eBin_ap, eCall_ap, aCons_ap, aNil_ap, eV_ap, h4, h5, h6, bind_ok, q1, q2, opNe_ts, decide_true, Bool.not_true]
    unfold S_law_5
    rw [sIf_ap, t]
    rfl
  exact ⟨ρ4, g4, seq_nx s2 (seq_nx s3 (seq_nx s4 s5)), kn_sub k4 (by simp)⟩
end K46
namespace K46
open PySem
open PySem.Spec
open PyProof.Rows
open L2
open DL
variable {g : G} {ρ : RS}
theorem ix0 (x y : Int) : opIx (tDI [x, y]) (.int 0) g = .ok (.int x) g := rfl
theorem ix1 (x y : Int) : opIx (tDI [x, y]) (.int 1) g = .ok (.int y) g := rfl
theorem segB2 {w : Want} (k : Kn 30 w ρ) (h1 : (1, SV.d tokD) ∈ w) {a0 a1 b0 b1 : Int} (h9 : (9, SV.d (tDI [a0, a1])) ∈ w) (h10 : (10, SV.d (tDI [b0, b1])) ∈ w) (ha : 0 ≤ a0 ∧ a0 ≤ 1000) (ha1 : 1 ≤ a1 ∧ a1 ≤ 1000) (hb : 0 ≤ b0 ∧ b0 ≤ 1000) (hb1 : 1 ≤ b1 ∧ b1 ≤ 1000) (hl : a0 * b1 < b0 * a1) (g : G) : ∃ ρ', sSeq S_law_10 S_law_11 ρ g = .nx ρ' g ∧ Kn 30 w0 ρ' := by
  obtain ⟨d, hR, e1⟩ := m_between_eq ha ha1 hb hb1 hl g
  have e2 := m__law_between_eq ha ha1 hb hb1 hR g
  obtain ⟨p, q, rfl, q1, q2, p1, p2, _, _, _, u, v, huv⟩ := hR
  have e3 := div_one huv ⟨p1, by omega⟩ ⟨by omega, by omega⟩ g
  have k9 := k.2.1 _ h9
  have k10 := k.2.1 _ h10
  simp only at k9 k10
  have s10 : S_law_10 ρ g = .nx (ρ.set 11 (.d (tDI [p, q]))) g := by
    simp only [S_law_10, sSet_ap, eCall_ap, aCons_ap, aNil_ap, eV_ap, k9, k10, bind_ok, e1, go_ok]
  have k2 := kn_set k (i := 11) (x := .d (tDI [p, q])) (by decide) rfl
  have m9 := k2.2.1 (9, SV.d (tDI [a0, a1])) (by simp [h9])
  have m10 := k2.2.1 (10, SV.d (tDI [b0, b1])) (by simp [h10])
  have m11 := k2.2.1 (11, SV.d (tDI [p, q])) (by simp)
  simp only at m9 m10 m11
  have k3 := kn_sub (want' := w0) k2 (by
    intro x hx
    rw [List.mem_singleton.mp hx]
    simp [h1])
  generalize ρ.set 11 (.d (tDI [p, q])) = ρ2 at *
  refine ⟨ρ2, seq_nx s10 ?_, k3⟩
  have t : tOrF (tVal (eBin opNe (eV 11) (eCall m__law_between (aCons (eV 9) (aCons (eV 10) aNil))))) (tVal (eBin opNe (eCall m__law_divisor (aCons (eBin opIx (eV 11) (eC (.int 0))) (aCons (eBin opIx (eV 11) (eC (.int 1))) aNil))) (eC (.int 1)))) ρ2 g = .ok false g := by
    simp only [tOrF_ap, tVal_ap, eBin_ap, eCall_ap, aCons_ap, aNil_ap, eV_ap, eC_ap, m9, m10, m11, bind_ok, e2, opNe_t1, decide_true, Bool.not_true, Bool.false_eq_true, if_false, ix0, ix1, e3, opNe_int, reduceIte, ne_eq, not_true_eq_false, decide_false]
  unfold S_law_11
  rw [sIf_ap, t]
  rfl
theorem segB (k : Kn 30 w0 ρ) (g : G) : ∃ ρ' g', sSeq S_law_7 S_law_8 ρ g = .nx ρ' g' ∧ Kn 30 w0 ρ' := by
  obtain ⟨a0, g1, e1, a0l, a0h⟩ := take_ok 40 g (by omega)
  obtain ⟨a1, g2, e2, a1l, a1h⟩ := take_ok 40 g1 (by omega)
  obtain ⟨b0, g3, e3, b0l, b0h⟩ := take_ok 40 g2 (by omega)
  obtain ⟨b1, g4, e4, b1l, b1h⟩ := take_ok 40 g3 (by omega)
  have h1 := k.2.1 (1, .d tokD) (by simp)
  have s7 : S_law_7 ρ g = .nx ((ρ.set 7 (.d (tDI [a0, 1 + a1]))).set 8 (.d (tDI [b0, 1 + b1]))) g4 := by
    show _ = SO.nx ((ρ.set 7 (.d (.tuple [.int a0, .int (1 + a1)]))).set 8 (.d (.tuple [.int b0, .int (1 + b1)]))) g4
    simp (disch := omega) only [S_law_7, h1, e1, e2, e3, e4, eV_ap, eC_ap, eBin_ap, eNeg_ap, tVal_ap, eIsN_ap, eNotN_ap, eChain_ap, tAndF_ap, tOrF_ap, tNotF_ap, tTru_ap, eAnd_ap, eOr_ap, eNot_ap, eIf_ap, aNil_ap, aCons_ap, eTup_ap, eLst_ap, oNone_ap, oSome_ap, eSl_ap, eCall_ap, iLst_ap, iTpl_ap, iRan2_apN, eOf_ap, oLst_ap, oCat_ap, oRep_ap, oSl_ap, oList_ap, oComp_ap, tYesF_ap, sNil_ap, sSeq_th, sBrk_ap, sCnt_ap, sExpr_ap, sRet_ap, sRetN_ap, sIf_ap, sSet_ap, sSetO_ap, sAsg_ap, sPar_ap, sPar3_ap, sAug_ap, sApp_ap, sExt_ap, sSetIx_ap, sFrz_ap, eIxO_ap, eLenO_ap, eIxA_ap, eLenA_ap, vOf_ap, vCons_ap, vOwn_ap, vOwn2_ap, sTup_ap, iSeq_ap, sRaise_ap, sTry_ap, eExF_ap, tIfF_ap, eRev_ap, eRevA_ap, eRevF_ap, th_nx, th_rt, th_bk, th_ct, th_exc, bind_ok, bind_exc, go_ok, go_exc, opAdd_int, opSub_int, opMul_a, opMul_b, opDiv_pos, opDiv_wide, opMod_pos, opI_int, opEq_int, opNe_int, opEq_bool, opNe_bool, atI_0, atI_1, atI_2, atI_3, opIx_list, opIx_tuple, iRan1_ap, bLen_list, bLen_tuple, bInt_int, bAbs_int, bName, bNil, bCons, bTup, List.getElem?_cons_zero, List.getElem?_cons_succ, List.set_cons_zero, List.set_cons_succ, List.length_cons, List.length_nil, noTok, if_true, if_false, decide_true, decide_false, Bool.not_true, Bool.not_false, setAll, List.map_cons, List.map_nil, truD, Bool.true_eq_false, Bool.false_eq_true, Option.bind_some, true_and, and_true, List.replicate, startR, List.cons_append, List.nil_append, Nat.sub_self, reduceIte, ↓reduceIte, DL.isNon, LIM_eq, and_self, List.map_append, List.length_map, Int.toNat_natCast, Nat.zero_le, Nat.reduceLeDiff, Int.reduceNeg, Int.reduceLE, Int.reduceLT, Int.zero_add, ran1_int, ran2_int, noEx, eq_self, dI, dP, dPs]
  have k2 := kn_set (kn_set k (i := 7) (x := .d (tDI [a0, 1 + a1])) (by decide) rfl) (i := 8) (x := .d (tDI [b0, 1 + b1])) (by decide) rfl
  have m7 := k2.2.1 (7, SV.d (tDI [a0, 1 + a1])) (by simp)
  have m8 := k2.2.1 (8, SV.d (tDI [b0, 1 + b1])) (by simp)
  have m1 := k2.2.1 (1, SV.d tokD) (by simp)
  simp only at m7 m8 m1
  have hw : ∀ x ∈ ([(1, SV.d tokD)] : Want), x ∈ ((8, SV.d (tDI [b0, 1 + b1])) :: ((7, SV.d (tDI [a0, 1 + a1])) :: w0.filter fun w => decide (w.1 ≠ 7)).filter fun w => decide (w.1 ≠ 8)) := by simp
  have k3 := kn_sub (want' := w0) k2 hw
  generalize (ρ.set 7 (.d (tDI [a0, 1 + a1]))).set 8 (.d (tDI [b0, 1 + b1])) = ρ2 at *
  generalize hA : 1 + a1 = A1 at *
  generalize hB : 1 + b1 = B1 at *
  have t : tVal (eBin opNe (eBin opMul (eBin opIx (eV 7) (eC (.int 0))) (eBin opIx (eV 8) (eC (.int 1)))) (eBin opMul (eBin opIx (eV 8) (eC (.int 0))) (eBin opIx (eV 7) (eC (.int 1))))) ρ2 g4 = .ok (!decide (a0 * B1 = b0 * A1)) g4 := by
    have o1 : opMul (.int a0) (.int B1) g4 = .ok (.int (a0 * B1)) g4 := opMul_a (by omega) (by omega)
    have o2 : opMul (.int b0) (.int A1) g4 = .ok (.int (b0 * A1)) g4 := opMul_a (by omega) (by omega)
    simp only [tVal_ap, eBin_ap, eV_ap, eC_ap, m7, m8, bind_ok, ix0, ix1, o1, o2, opNe_int]
  by_cases hc : a0 * B1 = b0 * A1
  · refine ⟨ρ2, g4, seq_nx s7 ?_, k3⟩
    unfold S_law_8
    rw [sIf_ap, t, decide_eq_true hc]
    rfl
  · have e8 : ∀ o, (sSeq S_law_9 (sSeq S_law_10 S_law_11)) ρ2 g4 = o → S_law_8 ρ2 g4 = o := by
      intro o ho
      unfold S_law_8
      rw [sIf_ap, t, decide_eq_false hc, go_ok, if_pos (by rfl)]
      exact ho
    have o1 : opMul (.int a0) (.int B1) g4 = .ok (.int (a0 * B1)) g4 := opMul_a (by omega) (by omega)
    have o2 : opMul (.int b0) (.int A1) g4 = .ok (.int (b0 * A1)) g4 := opMul_a (by omega) (by omega)
    have tt : tVal (eBin opLt (eBin opMul (eBin opIx (eV 7) (eC (.int 0))) (eBin opIx (eV 8) (eC (.int 1)))) (eBin opMul (eBin opIx (eV 8) (eC (.int 0))) (eBin opIx (eV 7) (eC (.int 1))))) ρ2 g4 = .ok (decide (a0 * B1 < b0 * A1)) g4 := by
      simp only [tVal_ap, eBin_ap, eV_ap, eC_ap, m7, m8, bind_ok, ix0, ix1, o1, o2, opI_int]
    by_cases hl : a0 * B1 < b0 * A1
    · have s9 : S_law_9 ρ2 g4 = .nx ((ρ2.set 9 (.d (tDI [a0, A1]))).set 10 (.d (tDI [b0, B1]))) g4 := by
        have et : eTup (aCons (eV 7) (aCons (eV 8) aNil)) ρ2 g4 = .ok (.tuple [tDI [a0, A1], tDI [b0, B1]]) g4 := by
          simp only [eTup_ap, aCons_ap, aNil_ap, eV_ap, m7, m8, bind_ok]
          rfl
        unfold S_law_9
        rw [sAsg_ap, eIf_ap, tt, decide_eq_true hl]
        simp only [bind_ok, if_true, et]
        rfl
      obtain ⟨ρ', e, kk⟩ := segB2 (kn_set (kn_set k3 (i := 9) (x := .d (tDI [a0, A1])) (by decide) rfl) (i := 10) (x := .d (tDI [b0, B1])) (by decide) rfl) (by simp) (by simp) (by simp) ⟨a0l, by omega⟩ ⟨by omega, by omega⟩ ⟨b0l, by omega⟩ ⟨by omega, by omega⟩ hl g4
      exact ⟨ρ', g4, seq_nx s7 (e8 _ (seq_nx s9 e)), kk⟩
    · have s9 : S_law_9 ρ2 g4 = .nx ((ρ2.set 9 (.d (tDI [b0, B1]))).set 10 (.d (tDI [a0, A1]))) g4 := by
        have et : eTup (aCons (eV 8) (aCons (eV 7) aNil)) ρ2 g4 = .ok (.tuple [tDI [b0, B1], tDI [a0, A1]]) g4 := by
          simp only [eTup_ap, aCons_ap, aNil_ap, eV_ap, m7, m8, bind_ok]
          rfl
        unfold S_law_9
        rw [sAsg_ap, eIf_ap, tt, decide_eq_false hl]
        simp only [bind_ok, Bool.false_eq_true, if_false, et]
        rfl
      obtain ⟨ρ', e, kk⟩ := segB2 (a0 := b0) (a1 := B1) (b0 := a0) (b1 := A1) (kn_set (kn_set k3 (i := 9) (x := .d (tDI [b0, B1])) (by decide) rfl) (i := 10) (x := .d (tDI [a0, A1])) (by decide) rfl) (by simp) (by simp) (by simp) ⟨b0l, by omega⟩ ⟨by omega, by omega⟩ ⟨a0l, by omega⟩ ⟨by omega, by omega⟩ (by omega) g4
      exact ⟨ρ', g4, seq_nx s7 (e8 _ (seq_nx s9 e)), kk⟩
end K46
namespace K46
open PySem
open PySem.Spec
open PyProof.Rows
open L2
open DL
variable {g : G} {ρ : RS}
theorem pick_sign (g : G) : ∃ (b : Bool) (g' : G), m__law_pick [tokD, .list [.str "L", .str "R"]] g = .ok (.str (sg b)) g' := by
  obtain ⟨b, g', _, e⟩ := pick_any (fun b => PyData.str (sg b)) (row := [true, false]) (g := g) (by decide) (by decide)
  refine ⟨b, g', ?_⟩
  rw [sg_L, sg_R]
  exact e
theorem comp_signs : ∀ (xs : List D) (ρ : RS) (g : G), ρ[1]? = some (.d tokD) → ∃ (s : List Bool) (g' : G), s.length = xs.length ∧ compF (bName 12) tYesF (eCall m__law_pick (aCons (eV 1) (aCons (eLst (aCons (eC (.str "L")) (aCons (eC (.str "R")) aNil))) aNil))) ρ xs g = .ok (s.map fun b => PyData.str (sg b)) g'
  | [], ρ, g, _ => ⟨[], g, rfl, rfl⟩
  | x :: xs, ρ, g, h => by
    obtain ⟨b, g1, e⟩ := pick_sign g
    obtain ⟨s, g', hs, e2⟩ := comp_signs xs ρ g1 h
    have h1 : (ρ.set 12 (.d x))[1]? = some (.d tokD) := by rw [List.getElem?_set_ne (by decide)]; exact h
    have ee : eCall m__law_pick (aCons (eV 1) (aCons (eLst (aCons (eC (.str "L")) (aCons (eC (.str "R")) aNil))) aNil)) (ρ.set 12 (.d x)) g = .ok (.str (sg b)) g1 := by
      have el : eLst (aCons (eC (.str "L")) (aCons (eC (.str "R")) aNil)) (ρ.set 12 (.d x)) g = .ok (.list [.str "L", .str "R"]) g := rfl
      simp only [eCall_ap, aCons_ap, aNil_ap, eV_ap, h1, bind_ok, el, e]
    refine ⟨b :: s, g', by rw [List.length_cons, List.length_cons, hs], ?_⟩
    have hb : bName 12 x ρ = some (ρ.set 12 (.d x)) := rfl
    have ht : ∀ ρ1 (g : G), tYesF ρ1 g = .ok true g := fun _ _ => rfl
    have hn : noTok [PyData.str (sg b)] = true := rfl
    simp only [compF, hb, ht, ee, e2, bind_ok, if_true, hn, List.map_cons]
theorem str0 : ("" : Str) = ⟨#[]⟩ := by decide +kernel
theorem sg_add (b : Bool) (s : List Bool) : sg b ++ (⟨#[]⟩ : Str) ++ txt s = txt (b :: s) := by
  show (⟨(#[cd b] ++ #[]) ++ (s.map cd).toArray⟩ : Str) = ⟨((b :: s).map cd).toArray⟩
  simp
theorem sjoin_txt : ∀ s : List Bool, Str.join ⟨#[]⟩ (s.map sg) = txt s
  | [] => rfl
  | [b] => rfl
  | b :: c :: s => by
    show sg b ++ (⟨#[]⟩ : Str) ++ Str.join ⟨#[]⟩ ((c :: s).map sg) = _
    rw [sjoin_txt (c :: s), sg_add]
theorem sum_len : ∀ s : List Bool, ((s.map sg).map (·.length)).sum = s.length
  | [] => rfl
  | b :: s => by
    rw [List.map_cons, List.map_cons, List.sum_cons, sum_len s, List.length_cons]
    show 1 + s.length = _
    omega
theorem join_txt (s : List Bool) (hs : s.length ≤ 100) : opJoin (.str "") (.list (s.map fun b => PyData.str (sg b))) g = .ok (.str (txt s)) g := by
  have e : asStrs (s.map fun b => PyData.str (sg b)) = some (s.map sg) := by
    have := asStrs_map (s.map sg)
    rw [List.map_map] at this
    exact this
  have hj : Txt.join "" (s.map sg) = txt s := by
    rw [str0]
    show Builtin.Str.glued _ _ = _
    rw [StrLaws.glued_eq_join, sjoin_txt]
  show (match asStrs (s.map fun b => PyData.str (sg b)) with | some ys => _ | none => _) = _
  rw [e]
  show (if ((s.map sg).map (·.length)).sum + (s.map sg).length * Str.length "" ≤ 16777216 then _ else _) = _
  have h0 : Str.length "" = 0 := by rw [str0]; rfl
  rw [if_pos (by rw [sum_len, h0, Nat.mul_zero]; omega), hj]
theorem way_bez : ∀ (s : List Bool) (l0 l1 h0 h1 : Int), h0 * l1 - l0 * h1 = 1 → ∃ u v : Int, u * (wayL l0 l1 h0 h1 s).1 + v * (wayL l0 l1 h0 h1 s).2 = 1
  | [], l0, l1, h0, h1, h => ⟨l1, -l0, by show l1 * (l0 + h0) + -l0 * (l1 + h1) = 1; grind⟩
  | true :: s, l0, l1, h0, h1, h => way_bez s l0 l1 (l0 + h0) (l1 + h1) (by grind)
  | false :: s, l0, l1, h0, h1, h => way_bez s (l0 + h0) (l1 + h1) h0 h1 (by grind)
theorem lay_txt (s : List Bool) : lay 0 (.str (txt s)) := by
  have h : PyData.strOk (txt s) = true := by
    unfold PyData.strOk txt
    rw [List.all_toArray, List.all_eq_true]
    intro x hx
    obtain ⟨b, _, rfl⟩ := List.mem_map.mp hx
    cases b <;> decide
  exact ⟨by simpa only [PyData.canLay0] using h, by simp only [PyData.depth]; exact Nat.le_refl _⟩
theorem segC (k : Kn 30 w0 ρ) (g : G) : ∃ ρ' g', sSeq S_law_13 (sSeq S_law_14 S_law_15) ρ g = .nx ρ' g' ∧ Kn 30 w0 ρ' := by
  obtain ⟨n, g1, e1, n0, n1⟩ := take_ok 12 g (by omega)
  have h1 := k.2.1 (1, .d tokD) (by simp)
  simp only at h1
  have hi : iRan1 (aCons (eCall m_take (aCons (eV 1) (aCons (eC (.int 12)) aNil))) aNil) ρ g = .ok (DL.upTo 0 n.toNat) g1 := by
    have ea : aCons (eCall m_take (aCons (eV 1) (aCons (eC (.int 12)) aNil))) aNil ρ g = .ok [.int n] g1 := by
      simp only [eCall_ap, aCons_ap, aNil_ap, eV_ap, eC_ap, h1, bind_ok, e1]
    unfold iRan1
    rw [ea, bind_ok]
    exact if_pos ⟨by omega, by omega⟩
  have hw : (wipeR ρ [12])[1]? = some (.d tokD) := by
    show (ρ.set 12 .un)[1]? = _
    rw [List.getElem?_set_ne (by decide)]
    exact h1
  obtain ⟨s, g2, hs, e2⟩ := comp_signs (DL.upTo 0 n.toNat) (wipeR ρ [12]) g1 hw
  rw [upTo_length] at hs
  have hl : s.length ≤ 20 := by omega
  have hC : eOf C_law_1 ρ g = .ok (.list (s.map fun b => PyData.str (sg b))) g2 := by
    unfold eOf C_law_1 oComp
    rw [hi, bind_ok, if_pos (by rw [upTo_length]; show n.toNat ≤ 1000000; omega), e2, bind_ok]
  have s13 : S_law_13 ρ g = .nx (ρ.set 13 (.d (.str (txt s)))) g2 := by
    have ej : eJoin (eC (.str "")) (eOf C_law_1) ρ g = .ok (.str (txt s)) g2 := by
      unfold eJoin
      rw [eC_ap, bind_ok]
      show (eOf C_law_1 ρ g).bind _ = _
      rw [hC, bind_ok]
      exact join_txt s (by omega)
    simp only [S_law_13, sSet_ap, ej, go_ok]
  have k2 := kn_set k (i := 13) (x := .d (.str (txt s))) (by decide) rfl
  have m13 := k2.2.1 (13, .d (.str (txt s))) (by simp)
  simp only at m13
  generalize ρ.set 13 (.d (.str (txt s))) = ρ2 at *
  have f1 := m__law_way_eq s g2
  have f2 := m_way_to_eq (s := s) (c := 1) hl (by decide) g2
  have f3 := m_way_to_eq (s := s) (c := 3) hl (by decide) g2
  obtain ⟨b1, b2, b3, b4⟩ := wayL_bd s 0 1 1 0 (by decide) (by decide) (by decide) (by decide)
  obtain ⟨u, v, huv⟩ := way_bez s 0 1 1 0 (by decide)
  have hp : (2 : Int) ^ s.length ≤ 1048576 := by
    have h := Nat.pow_le_pow_right (show 0 < 2 by decide) hl
    have h2 := Int.ofNat_le.mpr h
    have h3 : (2 : Int) ^ s.length ≤ 2 ^ 20 := by simpa using h2
    exact h3
  generalize hw0 : wayL 0 1 1 0 s = w at *
  obtain ⟨p, q⟩ := w
  simp only [Int.one_mul] at b1 b2 b3 b4 huv f1 f2 f3
  have f4 := div_one huv ⟨b1, by omega⟩ ⟨b2, by omega⟩ g2
  have s14 : S_law_14 ρ2 g2 = .nx (ρ2.set 14 (.d (tDI [p, q]))) g2 := by
    simp only [S_law_14, sSet_ap, eCall_ap, aCons_ap, aNil_ap, eV_ap, m13, bind_ok, f1, go_ok]
  have k3 := kn_set k2 (i := 14) (x := .d (tDI [p, q])) (by decide) rfl
  have m13' := k3.2.1 (13, .d (.str (txt s))) (by simp)
  have m14 := k3.2.1 (14, .d (tDI [p, q])) (by simp)
  simp only at m13' m14
  have k4 := kn_sub (want' := w0) k3 (by simp)
  generalize ρ2.set 14 (.d (tDI [p, q])) = ρ3 at *
  refine ⟨ρ3, g2, seq_nx s13 (seq_nx s14 ?_), k4⟩
  have hn : opNe (.str (txt s)) (.str (txt s)) g2 = .ok (.bool false) g2 := by
    rw [opNe_shp ((lay_txt s).shp (by decide)) ((lay_txt s).shp (by decide))]
    have : PyData.eqv (.str (txt s)) (.str (txt s)) = true := by
      have h := PySem.W.Datum.eqv (α := Str) (txt s) (txt s)
      exact h.trans (decide_eq_true rfl)
    rw [this]
    rfl
  have o1 : opMul (.int 3) (.int p) g2 = .ok (.int (3 * p)) g2 := opMul_a (by decide) (by decide)
  have o2 : opMul (.int 3) (.int q) g2 = .ok (.int (3 * q)) g2 := opMul_a (by decide) (by decide)
  have t : tOrF (tVal (eBin opNe (eCall m_way_to (aCons (eBin opIx (eV 14) (eC (.int 0))) (aCons (eBin opIx (eV 14) (eC (.int 1))) aNil))) (eV 13))) (tOrF (tVal (eBin opNe (eCall m__law_divisor (aCons (eBin opIx (eV 14) (eC (.int 0))) (aCons (eBin opIx (eV 14) (eC (.int 1))) aNil))) (eC (.int 1)))) (tVal (eBin opNe (eCall m_way_to (aCons (eBin opMul (eC (.int 3)) (eBin opIx (eV 14) (eC (.int 0)))) (aCons (eBin opMul (eC (.int 3)) (eBin opIx (eV 14) (eC (.int 1)))) aNil))) (eV 13)))) ρ3 g2 = .ok false g2 := by
    simp only [tOrF_ap, tVal_ap, eBin_ap, eCall_ap, aCons_ap, aNil_ap, eV_ap, eC_ap, m13', m14, bind_ok, ix0, ix1, f2, f3, f4, o1, o2, hn, opNe_int, ne_eq, not_true_eq_false, decide_true, Bool.not_true, Bool.false_eq_true, if_false]
  unfold S_law_15
  rw [sIf_ap, t]
  rfl
end K46
namespace K46
open PySem
open PySem.Spec
open PyProof.Rows
open L2
open DL
variable {g : G} {ρ : RS}
def unT (d : D) : List Int := (asIntT d).getD []
theorem unT_t (k : List Int) : unT (tDI k) = k := by
  unfold unT
  rw [show asIntT (tDI k) = some k from asInts_map k]
  rfl
theorem sort_map (ks : List (List Int)) : ∃ L : List (List Int), sortD (ks.map tDI) = L.map tDI ∧ L.length = ks.length ∧ ∀ k ∈ L, k ∈ ks := by
  have hm : ∀ x ∈ sortD (ks.map tDI), ∃ k ∈ ks, x = tDI k := fun x hx => by
    rw [← sortD_eq] at hx
    obtain ⟨k, hk, e⟩ := List.mem_map.mp ((List.mergeSort_perm _ _).mem_iff.mp hx)
    exact ⟨k, hk, e.symm⟩
  refine ⟨(sortD (ks.map tDI)).map unT, ?_, ?_, fun k hk => ?_⟩
  · rw [List.map_map]
    refine (List.map_id _).symm.trans (List.map_congr_left fun x hx => ?_)
    obtain ⟨k, _, rfl⟩ := hm x hx
    show tDI k = tDI (unT (tDI k))
    rw [unT_t]
  · rw [List.length_map, ← sortD_eq, (List.mergeSort_perm _ _).length_eq, List.length_map]
  · obtain ⟨x, hx, rfl⟩ := List.mem_map.mp hk
    obtain ⟨q, hq, rfl⟩ := hm x hx
    rw [unT_t]
    exact hq
theorem kn_R (n : Int) : Kn 30 (wantR n) (st (wantR n)) := ⟨rfl, fun w hw => by
  unfold wantR at hw
  simp only [List.mem_cons, List.not_mem_nil, or_false] at hw
  rcases hw with rfl | rfl <;> rfl, rfl, rfl, rfl⟩
theorem kn_T (k : List Int) : Kn 30 (wantT k) (st (wantT k)) := ⟨rfl, fun w hw => by
  unfold wantT at hw
  simp only [List.mem_cons, List.not_mem_nil, or_false] at hw
  rcases hw with rfl | rfl <;> rfl, rfl, rfl, rfl⟩
theorem kn_0 : Kn 30 w0 (st w0) := ⟨rfl, fun w hw => by
  rw [List.mem_singleton.mp hw]
  rfl, rfl, rfl, rfl⟩
theorem segR (k : Kn 30 w0 ρ) (g : G) : ∃ ρ' g', sSeq S_law_17 blkR ρ g = .nx ρ' g' ∧ Kn 30 w0 ρ' := by
  obtain ⟨n, g1, e1, n0, n1⟩ := take_ok 14 g (by omega)
  have h1 := k.2.1 (1, .d tokD) (by simp)
  simp only at h1
  have s : S_law_17 ρ g = .nx (ρ.set 15 (.d (.int (1 + n)))) g1 := by
    simp only [S_law_17, sSet_ap, eBin_ap, eCall_ap, aCons_ap, aNil_ap, eV_ap, eC_ap, h1, bind_ok, e1, opAdd_int, go_ok]
  have k2 := kn_sub (want' := wantR (1 + n)) (kn_set k (i := 15) (x := .d (.int (1 + n))) (by decide) rfl) (by simp [wantR])
  obtain ⟨ρ', e, kk⟩ := run_check (g := g1) frR rfl (kn_R (1 + n)) k2 (okR_all (by omega) (by omega)) (by decide)
  exact ⟨ρ', g1, seq_nx s e, kk⟩
theorem segS (k : Kn 30 w0 ρ) (g : G) : ∃ ρ' g', sSeq S_law_24 S_law_25 ρ g = .nx ρ' g' ∧ Kn 30 w0 ρ' := by
  obtain ⟨n, g1, e1, n0, n1⟩ := take_ok 40 g (by omega)
  have h1 := k.2.1 (1, .d tokD) (by simp)
  simp only at h1
  have s : S_law_24 ρ g = .nx (ρ.set 18 (.d (.int (1 + n)))) g1 := by
    simp only [S_law_24, sSet_ap, eBin_ap, eCall_ap, aCons_ap, aNil_ap, eV_ap, eC_ap, h1, bind_ok, e1, opAdd_int, go_ok]
  have k2 := kn_set k (i := 18) (x := .d (.int (1 + n))) (by decide) rfl
  have m := k2.2.1 (18, .d (.int (1 + n))) (by simp)
  simp only at m
  have k3 := kn_sub (want' := w0) k2 (by simp)
  generalize ρ.set 18 (.d (.int (1 + n))) = ρ2 at *
  obtain ⟨ks, q1, hk, _, _, _⟩ := m_threes_eq (n := 1 + n) (by omega) (by omega) g1
  have q2 : m__law_threes [.int (1 + n)] g1 = .ok (.list (sortD (ks.map tDI))) g1 := by
    rw [m__law_threes_eq (by omega) (by omega), ← eqDs_of _ _ (okS_all (n := 1 + n) (by omega) (by omega)), hk]
  obtain ⟨L, hL, _, _⟩ := sort_map ks
  rw [hL] at q1 q2
  refine ⟨ρ2, g1, seq_nx s ?_, k3⟩
  have t : tVal (eBin opNe (eCall m_threes (aCons (eV 18) aNil)) (eCall m__law_threes (aCons (eV 18) aNil))) ρ2 g1 = .ok false g1 := by
    simp only [tVal_ap, eBin_ap, eCall_ap, aCons_ap, aNil_ap, eV_ap, m, bind_ok, q1, q2, opNe_ts, decide_true, Bool.not_true]
  unfold S_law_25
  rw [sIf_ap, t]
  rfl
theorem segT (k : Kn 30 w0 ρ) (g : G) : ∃ ρ' g', sSeq S_law_27 blkT ρ g = .nx ρ' g' ∧ Kn 30 w0 ρ' := by
  obtain ⟨n, g1, e1, n0, n1⟩ := take_ok 100000 g (by omega)
  have h1 := k.2.1 (1, .d tokD) (by simp)
  simp only at h1
  obtain ⟨ks, q1, _, h11, hT, hl⟩ := m_threes_eq (n := 1 + n) (by omega) (by omega) g1
  obtain ⟨L, hL, hlen, hsub⟩ := sort_map ks
  rw [hL] at q1
  have hne : L ≠ [] := fun e => by
    rw [e] at hlen
    have := List.length_pos_of_mem h11
    simp at hlen
    omega
  obtain ⟨t, g2, ht, e2⟩ := pick_any tDI (row := L) (g := g1) hne (by omega)
  have s : S_law_27 ρ g = .nx (ρ.set 19 (.d (tDI t))) g2 := by
    simp only [S_law_27, sSet_ap, eBin_ap, eCall_ap, aCons_ap, aNil_ap, eV_ap, eC_ap, h1, bind_ok, e1, opAdd_int, q1, e2, go_ok]
  have k2 := kn_sub (want' := wantT t) (kn_set k (i := 19) (x := .d (tDI t)) (by decide) rfl) (by simp [wantT])
  obtain ⟨ρ', e, kk⟩ := run_check (g := g2) frT rfl (kn_T t) k2 (okT_all t (hT t (hsub t ht))) (by decide)
  exact ⟨ρ', g2, seq_nx s e, kk⟩
end K46
namespace K46
open PySem
open PySem.Spec
open PyProof.Rows
open L2
open DL
variable {g : G} {ρ : RS}
theorem frz_seq (i : Nat) (f k : SF) (ρ : RS) (g : G) : sFrz i (sSeq f k) ρ g = sSeq (sFrz i f) k ρ g := by
  rw [sSeq_th, sFrz_ap, sFrz_ap]
  split
  · exact sSeq_th ..
  · exact sSeq_th ..
theorem whole_eq (k : Int) (h1 : 1 ≤ k) (h2 : k ≤ 1000) (g : G) : m_is_whole [.int k, .int 1, .int 1000000000000000000] g = .ok (.bool true) g := by
  refine m_rt (np := 3) rfl ?_
  show S_is_whole_1 [.d (.int k), .d (.int 1), .d (.int 1000000000000000000)] g = _
  have a1 : eIsi "int" (eV 0) [.d (.int k), .d (.int 1), .d (.int 1000000000000000000)] g = .ok (.bool true) g := rfl
  have a2 : eIsi "bool" (eV 0) [.d (.int k), .d (.int 1), .d (.int 1000000000000000000)] g = .ok (.bool false) g := rfl
  simp (disch := omega) only [S_is_whole_1, a1, a2, eV_ap, eC_ap, eBin_ap, eNeg_ap, tVal_ap, eIsN_ap, eNotN_ap, eChain_ap, tAndF_ap, tOrF_ap, tNotF_ap, tTru_ap, eAnd_ap, eOr_ap, eNot_ap, eIf_ap, aNil_ap, aCons_ap, eTup_ap, eLst_ap, oNone_ap, oSome_ap, eSl_ap, eCall_ap, iLst_ap, iTpl_ap, iRan2_apN, eOf_ap, oLst_ap, oCat_ap, oRep_ap, oSl_ap, oList_ap, oComp_ap, tYesF_ap, sNil_ap, sSeq_th, sBrk_ap, sCnt_ap, sExpr_ap, sRet_ap, sRetN_ap, sIf_ap, sSet_ap, sSetO_ap, sAsg_ap, sPar_ap, sPar3_ap, sAug_ap, sApp_ap, sExt_ap, sSetIx_ap, sFrz_ap, eIxO_ap, eLenO_ap, eIxA_ap, eLenA_ap, vOf_ap, vCons_ap, vOwn_ap, vOwn2_ap, sTup_ap, iSeq_ap, sRaise_ap, sTry_ap, eExF_ap, tIfF_ap, eRev_ap, eRevA_ap, eRevF_ap, th_nx, th_rt, th_bk, th_ct, th_exc, bind_ok, bind_exc, go_ok, go_exc, opAdd_int, opSub_int, opMul_a, opMul_b, opDiv_pos, opDiv_wide, opMod_pos, opI_int, opEq_int, opNe_int, opEq_bool, opNe_bool, atI_0, atI_1, atI_2, atI_3, opIx_list, opIx_tuple, iRan1_ap, bLen_list, bLen_tuple, bInt_int, bAbs_int, bName, bNil, bCons, bTup, List.getElem?_cons_zero, List.getElem?_cons_succ, List.set_cons_zero, List.set_cons_succ, List.length_cons, List.length_nil, noTok, if_true, if_false, decide_true, decide_false, Bool.not_true, Bool.not_false, setAll, List.map_cons, List.map_nil, truD, Bool.true_eq_false, Bool.false_eq_true, Option.bind_some, true_and, and_true, List.replicate, startR, List.cons_append, List.nil_append, Nat.sub_self, reduceIte, ↓reduceIte, DL.isNon, LIM_eq, and_self, List.map_append, List.length_map, Int.toNat_natCast, Nat.zero_le, Nat.reduceLeDiff, Int.reduceNeg, Int.reduceLE, Int.reduceLT, Int.zero_add, ran1_int, ran2_int, noEx, eq_self, dI, dP, dPs]
  rw [if_pos (decide_eq_true h1), decide_eq_true (show k ≤ 1000000000000000000 by omega)]
  rfl
theorem three_comp {x y z : Int} {y1 y2 y3 y4 : SV} (hx : 1 ≤ x ∧ x ≤ 1000) (hy : 1 ≤ y ∧ y ≤ 1000) (hz : 1 ≤ z ∧ z ≤ 1000) : C_is_three_1 [.d (tDI [x, y, z]), y1, y2, y3, y4] g = .ok [.bool true, .bool true, .bool true] g := by
  have hi : iSeq (eV 0) [.d (tDI [x, y, z]), y1, y2, y3, y4] g = .ok [.int x, .int y, .int z] g := rfl
  have hp : ∀ ρ (g : G), eBin opPow (eC (.int 10)) (eC (.int 18)) ρ g = .ok (.int 1000000000000000000) g := fun _ _ => rfl
  have he : ∀ (k : Int) (g : G), 1 ≤ k → k ≤ 1000 → eCall m_is_whole (aCons (eV 4) (aCons (eC (.int 1)) (aCons (eBin opPow (eC (.int 10)) (eC (.int 18))) aNil))) [.d (tDI [x, y, z]), y1, y2, y3, .d (.int k)] g = .ok (.bool true) g := fun k g h1 h2 => by
    simp only [eCall_ap, aCons_ap, aNil_ap, eV_ap, eC_ap, hp, List.getElem?_cons_succ, List.getElem?_cons_zero, bind_ok, whole_eq k h1 h2]
  have hb : ∀ k : Int, bName 4 (.int k) [.d (tDI [x, y, z]), y1, y2, y3, .un] = some [.d (tDI [x, y, z]), y1, y2, y3, .d (.int k)] := fun _ => rfl
  have ht : ∀ ρ1 (g : G), tYesF ρ1 g = .ok true g := fun _ _ => rfl
  unfold C_is_three_1 oComp
  rw [hi, bind_ok, if_pos (show [PyData.int x, PyData.int y, PyData.int z].length ≤ LIM from Nat.le_of_ble_eq_true rfl)]
  show compF _ _ _ [.d (tDI [x, y, z]), y1, y2, y3, .un] _ _ = _
  have hn : noTok [PyData.bool true] = true := rfl
  simp only [compF, hb, ht, he x _ hx.1 hx.2, he y _ hy.1 hy.2, he z _ hz.1 hz.2, bind_ok, if_true, hn]
theorem three_eq {x y z : Int} (hx : 1 ≤ x ∧ x ≤ 1000) (hy : 1 ≤ y ∧ y ≤ 1000) (hz : 1 ≤ z ∧ z ≤ 1000) (hxy : x ≤ y) (hyz : y ≤ z) (g : G) : m_is_three [tDI [x, y, z]] g = .ok (.bool (decide (x * x + y * y + z * z = 3 * x * y * z))) g := by
  refine m_rt (np := 1) rfl (Eq.trans (b := sem_is_three [.d (tDI [x, y, z]), .un, .un, .un, .un] g) rfl ?_)
  have hC := three_comp (g := g) (y1 := .un) (y2 := .un) (y3 := .un) (y4 := .un) hx hy hz
  have s1 : S_is_three_1 [.d (tDI [x, y, z]), .un, .un, .un, .un] g = .nx [.d (tDI [x, y, z]), .un, .un, .un, .un] g := by
    have e1 : tNotF (tTru (eIsi "tuple" (eV 0))) [.d (tDI [x, y, z]), .un, .un, .un, .un] g = .ok false g := rfl
    have e2 : tVal (eBin opNe (eCall bLen (aCons (eV 0) aNil)) (eC (.int 3))) [.d (tDI [x, y, z]), .un, .un, .un, .un] g = .ok false g := by
      show tVal (eBin opNe (eCall bLen (aCons (eV 0) aNil)) (eC (.int 3))) [.d (.tuple [.int x, .int y, .int z]), .un, .un, .un, .un] g = _
      simp (disch := omega) only [eV_ap, eC_ap, eBin_ap, eNeg_ap, tVal_ap, eIsN_ap, eNotN_ap, eChain_ap, tAndF_ap, tOrF_ap, tNotF_ap, tTru_ap, eAnd_ap, eOr_ap, eNot_ap, eIf_ap, aNil_ap, aCons_ap, eTup_ap, eLst_ap, oNone_ap, oSome_ap, eSl_ap, eCall_ap, iLst_ap, iTpl_ap, iRan2_apN, eOf_ap, oLst_ap, oCat_ap, oRep_ap, oSl_ap, oList_ap, oComp_ap, tYesF_ap, sNil_ap, sSeq_th, sBrk_ap, sCnt_ap, sExpr_ap, sRet_ap, sRetN_ap, sIf_ap, sSet_ap, sSetO_ap, sAsg_ap, sPar_ap, sPar3_ap, sAug_ap, sApp_ap, sExt_ap, sSetIx_ap, sFrz_ap, eIxO_ap, eLenO_ap, eIxA_ap, eLenA_ap, vOf_ap, vCons_ap, vOwn_ap, vOwn2_ap, sTup_ap, iSeq_ap, sRaise_ap, sTry_ap, eExF_ap, tIfF_ap, eRev_ap, eRevA_ap, eRevF_ap, th_nx, th_rt, th_bk, th_ct, th_exc, bind_ok, bind_exc, go_ok, go_exc, opAdd_int, opSub_int, opMul_a, opMul_b, opDiv_pos, opDiv_wide, opMod_pos, opI_int, opEq_int, opNe_int, opEq_bool, opNe_bool, atI_0, atI_1, atI_2, atI_3, opIx_list, opIx_tuple, iRan1_ap, bLen_list, bLen_tuple, bInt_int, bAbs_int, bName, bNil, bCons, bTup, List.getElem?_cons_zero, List.getElem?_cons_succ, List.set_cons_zero, List.set_cons_succ, List.length_cons, List.length_nil, noTok, if_true, if_false, decide_true, decide_false, Bool.not_true, Bool.not_false, setAll, List.map_cons, List.map_nil, truD, Bool.true_eq_false, Bool.false_eq_true, Option.bind_some, true_and, and_true, List.replicate, startR, List.cons_append, List.nil_append, Nat.sub_self, reduceIte, ↓reduceIte, DL.isNon, LIM_eq, and_self, List.map_append, List.length_map, Int.toNat_natCast, Nat.zero_le, Nat.reduceLeDiff, Int.reduceNeg, Int.reduceLE, Int.reduceLT, Int.zero_add, ran1_int, ran2_int, noEx, eq_self, dI, dP, dPs]
      rfl
    have e3 : tNotF (tTru (eCall bAll (aCons (eOf C_is_three_1) aNil))) [.d (tDI [x, y, z]), .un, .un, .un, .un] g = .ok false g := by
      have : eOf C_is_three_1 [.d (tDI [x, y, z]), .un, .un, .un, .un] g = .ok (.list [.bool true, .bool true, .bool true]) g := by
        unfold eOf
        rw [hC]
        rfl
      simp only [tNotF_ap, tTru_ap, eCall_ap, aCons_ap, aNil_ap, this, bind_ok]
      rfl
    unfold S_is_three_1
    rw [sIf_ap, tOrF_ap, e1]
    simp only [bind_ok, Bool.false_eq_true, if_false, tOrF_ap, e2, e3]
    rfl
  refine seq_nx s1 (seq_nx (ρ1 := [.d (tDI [x, y, z]), .d (.int x), .d (.int y), .d (.int z), .un]) (g1 := g) rfl ?_)
  generalize tDI [x, y, z] = T
  have p1 : -18446744073709551616 < 3 * x * y ∧ 3 * x * y < 18446744073709551616 := by
    have h1 := Int.mul_le_mul_of_nonneg_left hy.2 (show 0 ≤ 3 * x by omega)
    have h2 := Int.mul_nonneg (show 0 ≤ 3 * x by omega) (show 0 ≤ y by omega)
    omega
  obtain ⟨p1, p2⟩ := p1
  simp (disch := omega) only [S_is_three_4, hxy, hyz, eV_ap, eC_ap, eBin_ap, eNeg_ap, tVal_ap, eIsN_ap, eNotN_ap, eChain_ap, tAndF_ap, tOrF_ap, tNotF_ap, tTru_ap, eAnd_ap, eOr_ap, eNot_ap, eIf_ap, aNil_ap, aCons_ap, eTup_ap, eLst_ap, oNone_ap, oSome_ap, eSl_ap, eCall_ap, iLst_ap, iTpl_ap, iRan2_apN, eOf_ap, oLst_ap, oCat_ap, oRep_ap, oSl_ap, oList_ap, oComp_ap, tYesF_ap, sNil_ap, sSeq_th, sBrk_ap, sCnt_ap, sExpr_ap, sRet_ap, sRetN_ap, sIf_ap, sSet_ap, sSetO_ap, sAsg_ap, sPar_ap, sPar3_ap, sAug_ap, sApp_ap, sExt_ap, sSetIx_ap, sFrz_ap, eIxO_ap, eLenO_ap, eIxA_ap, eLenA_ap, vOf_ap, vCons_ap, vOwn_ap, vOwn2_ap, sTup_ap, iSeq_ap, sRaise_ap, sTry_ap, eExF_ap, tIfF_ap, eRev_ap, eRevA_ap, eRevF_ap, th_nx, th_rt, th_bk, th_ct, th_exc, bind_ok, bind_exc, go_ok, go_exc, opAdd_int, opSub_int, opMul_a, opMul_b, opDiv_pos, opDiv_wide, opMod_pos, opI_int, opEq_int, opNe_int, opEq_bool, opNe_bool, atI_0, atI_1, atI_2, atI_3, opIx_list, opIx_tuple, iRan1_ap, bLen_list, bLen_tuple, bInt_int, bAbs_int, bName, bNil, bCons, bTup, List.getElem?_cons_zero, List.getElem?_cons_succ, List.set_cons_zero, List.set_cons_succ, List.length_cons, List.length_nil, noTok, if_true, if_false, decide_true, decide_false, Bool.not_true, Bool.not_false, setAll, List.map_cons, List.map_nil, truD, Bool.true_eq_false, Bool.false_eq_true, Option.bind_some, true_and, and_true, List.replicate, startR, List.cons_append, List.nil_append, Nat.sub_self, reduceIte, ↓reduceIte, DL.isNon, LIM_eq, and_self, List.map_append, List.length_map, Int.toNat_natCast, Nat.zero_le, Nat.reduceLeDiff, Int.reduceNeg, Int.reduceLE, Int.reduceLT, Int.zero_add, ran1_int, ran2_int, noEx, eq_self, dI, dP, dPs]
end K46
namespace K46
open PySem
open PySem.Spec
open PyProof.Rows
open L2
open DL
variable {g : G} {ρ : RS}
theorem sort3 {a b c : Int} (ha : 1 ≤ a ∧ a ≤ 1000) (hb : 1 ≤ b ∧ b ≤ 1000) (hc : 1 ≤ c ∧ c ≤ 1000) : ∃ x y z : Int, sortZ [a, b, c] = [x, y, z] ∧ (1 ≤ x ∧ x ≤ 1000) ∧ (1 ≤ y ∧ y ≤ 1000) ∧ (1 ≤ z ∧ z ≤ 1000) ∧ x ≤ y ∧ y ≤ z := by
  simp only [sortZ, insI]
  repeat' (split)
  all_goals simp only [insI]
  all_goals repeat' (split)
  all_goals exact ⟨_, _, _, rfl, by omega, by omega, by omega, by omega, by omega⟩
theorem segF (k : Kn 30 w0 ρ) (g : G) : ∃ ρ' g', sSeq S_law_39 (sSeq S_law_40 S_law_41) ρ g = .nx ρ' g' ∧ Kn 30 w0 ρ' := by
  obtain ⟨a, g1, e1, a0, a1⟩ := take_ok 30 g (by omega)
  obtain ⟨b, g2, e2, b0, b1⟩ := take_ok 30 g1 (by omega)
  obtain ⟨c, g3, e3, c0, c1⟩ := take_ok 30 g2 (by omega)
  have h1 := k.2.1 (1, .d tokD) (by simp)
  simp only at h1
  have hw : ∀ x : D, ((wipeR ρ [12]).set 12 (.d x))[1]? = some (.d tokD) := fun x => by
    show ((ρ.set 12 .un).set 12 (.d x))[1]? = _
    rw [List.getElem?_set_ne (by decide), List.getElem?_set_ne (by decide)]
    exact h1
  have hC : eOf C_law_7 ρ g = .ok (.list ([1 + a, 1 + b, 1 + c].map .int)) g3 := by
    have hi : iRan1 (aCons (eC (.int 3)) aNil) ρ g = .ok [.int 0, .int 1, .int 2] g := rfl
    have hb : ∀ x : D, bName 12 x (wipeR ρ [12]) = some ((wipeR ρ [12]).set 12 (.d x)) := fun _ => rfl
    have ht : ∀ ρ1 (g : G), tYesF ρ1 g = .ok true g := fun _ _ => rfl
    have he : ∀ (x : D) (r : Int) (g g' : G), m_take [tokD, .int 30] g = .ok (.int r) g' → eBin opAdd (eC (.int 1)) (eCall m_take (aCons (eV 1) (aCons (eC (.int 30)) aNil))) ((wipeR ρ [12]).set 12 (.d x)) g = .ok (.int (1 + r)) g' := fun x r g g' e => by
      simp only [eBin_ap, eCall_ap, aCons_ap, aNil_ap, eV_ap, eC_ap, hw, bind_ok, e, opAdd_int]
    have hn : ∀ i : Int, noTok [PyData.int i] = true := fun _ => rfl
    unfold eOf C_law_7 oComp
    rw [hi, bind_ok, if_pos (show [PyData.int 0, PyData.int 1, PyData.int 2].length ≤ LIM from Nat.le_of_ble_eq_true rfl)]
    simp only [compF, hb, ht, he _ a g g1 e1, he _ b g1 g2 e2, he _ c g2 g3 e3, bind_ok, if_true, hn, List.map_cons, List.map_nil]
  obtain ⟨x, y, z, hs, hx, hy, hz, hxy, hyz⟩ := sort3 (a := 1 + a) (b := 1 + b) (c := 1 + c) ⟨by omega, by omega⟩ ⟨by omega, by omega⟩ ⟨by omega, by omega⟩
  have s39 : S_law_39 ρ g = .nx (ρ.set 24 (.d (tDI [x, y, z]))) g3 := by
    have hT : bTuple [.list ([x, y, z].map .int)] g3 = .ok (tDI [x, y, z]) g3 := rfl
    simp only [S_law_39, sSet_ap, eCall_ap, aCons_ap, aNil_ap, hC, bind_ok, bSort_int, hs, hT, go_ok]
  have k2 := kn_set k (i := 24) (x := .d (tDI [x, y, z])) (by decide) rfl
  have m24 := k2.2.1 (24, .d (tDI [x, y, z])) (by simp)
  simp only at m24
  generalize ρ.set 24 (.d (tDI [x, y, z])) = ρ2 at *
  have s40 : S_law_40 ρ2 g3 = .nx (ρ2.set 25 (.d (.bool (decide (x * x + y * y + z * z = 3 * x * y * z))))) g3 := by
    have i0 : opIx (tDI [x, y, z]) (.int 0) g3 = .ok (.int x) g3 := rfl
    have i1 : opIx (tDI [x, y, z]) (.int 1) g3 = .ok (.int y) g3 := rfl
    have i2 : opIx (tDI [x, y, z]) (.int 2) g3 = .ok (.int z) g3 := rfl
    have mm : ∀ (i j : Int), 1 ≤ j ∧ j ≤ 1000 → opMul (.int i) (.int j) g3 = .ok (.int (i * j)) g3 := fun i j h => opMul_b (by omega) (by omega)
    simp only [S_law_40, sSet_ap, eBin_ap, eV_ap, eC_ap, m24, bind_ok, i0, i1, i2, mm _ _ hx, mm _ _ hy, mm _ _ hz, opAdd_int, opEq_int, go_ok]
  have k3 := kn_set k2 (i := 25) (x := .d (.bool (decide (x * x + y * y + z * z = 3 * x * y * z)))) (by decide) rfl
  have n24 := k3.2.1 (24, .d (tDI [x, y, z])) (by simp)
  have n25 := k3.2.1 (25, .d (.bool (decide (x * x + y * y + z * z = 3 * x * y * z)))) (by simp)
  simp only at n24 n25
  have k4 := kn_sub (want' := w0) k3 (by simp)
  have e4 := three_eq hx hy hz hxy hyz g3
  generalize decide (x * x + y * y + z * z = 3 * x * y * z) = B at *
  generalize ρ2.set 25 (.d (.bool B)) = ρ3 at *
  refine ⟨ρ3, g3, seq_nx s39 (seq_nx s40 ?_), k4⟩
  have t : tVal (eBin opNe (eCall m_is_three (aCons (eV 24) aNil)) (eV 25)) ρ3 g3 = .ok false g3 := by
    simp only [tVal_ap, eBin_ap, eCall_ap, aCons_ap, aNil_ap, eV_ap, n24, n25, bind_ok, e4, opNe_bool, ne_eq, not_true_eq_false, decide_false]
    try simp
  unfold S_law_41
  rw [sIf_ap, t]
  rfl
end K46
namespace K46
open PySem
open PySem.Spec
open PyProof.Rows
open L2
open DL
variable {g g1 : G} {ρ ρ1 : RS} {a b c d e k : SF} {o : SO}
theorem sa (f h k : SF) : sSeq f (sSeq h k) = sSeq (sSeq f h) k := funext fun ρ => funext fun g => sSeq_assoc f h k ρ g
theorem ap2 (h : sSeq a b ρ g = .nx ρ1 g1) (hk : k ρ1 g1 = o) : sSeq a (sSeq b k) ρ g = o := by rw [sa]; exact seq_nx h hk
theorem ap3 (h : sSeq a (sSeq b c) ρ g = .nx ρ1 g1) (hk : k ρ1 g1 = o) : sSeq a (sSeq b (sSeq c k)) ρ g = o := by rw [sa b c k]; exact ap2 h hk
theorem ap4 (h : sSeq a (sSeq b (sSeq c d)) ρ g = .nx ρ1 g1) (hk : k ρ1 g1 = o) : sSeq a (sSeq b (sSeq c (sSeq d k))) ρ g = o := by rw [sa c d k]; exact ap3 h hk
theorem ap5 (h : sSeq a (sSeq b (sSeq c (sSeq d e))) ρ g = .nx ρ1 g1) (hk : k ρ1 g1 = o) : sSeq a (sSeq b (sSeq c (sSeq d (sSeq e k)))) ρ g = o := by rw [sa d e k]; exact ap4 h hk
theorem body (k : Kn 30 w0 ρ) (g : G) : ∃ ρ' g', B_law_1 ρ g = .nx ρ' g' ∧ Kn 30 w0 ρ' := by
  obtain ⟨ρ1, g1, e1, k1⟩ := segA k g
  obtain ⟨ρ2, g2, e2, k2⟩ := segB k1 g1
  obtain ⟨ρ3, g3, e3, k3⟩ := segC k2 g2
  obtain ⟨ρ4, g4, e4, k4⟩ := segR k3 g3
  obtain ⟨ρ5, g5, e5, k5⟩ := segS k4 g4
  obtain ⟨ρ6, g6, e6, k6⟩ := segT k5 g5
  obtain ⟨ρ7, g7, e7, k7⟩ := segF k6 g6
  refine ⟨ρ7, g7, ?_, k7⟩
  have hz : sFrz 20 (sSeq S_law_34 (sSeq S_law_36 (sSeq S_law_37 (sSeq S_law_39 (sSeq S_law_40 S_law_41))))) = sSeq (sFrz 20 (sSeq S_law_34 (sSeq S_law_36 S_law_37))) (sSeq S_law_39 (sSeq S_law_40 S_law_41)) := by
    rw [sa S_law_36, sa S_law_34]
    exact funext fun ρ => funext fun g => frz_seq _ _ _ ρ g
  unfold B_law_1
  rw [hz]
  exact ap4 e1 (ap2 e2 (ap3 e3 (ap5 e4 (ap2 e5 (ap5 e6 e7)))))
theorem law_math : LawMath := by
  intro cells hne
  have k0 : Kn 30 w0 (.un :: .d tokD :: List.replicate 28 .un) := kn_0
  generalize (.un :: .d tokD :: List.replicate 28 .un : RS) = ρ0 at *
  have st1 : ∀ (x : D) {ρ : RS}, Kn 30 w0 ρ → Kn 30 w0 (ρ.set 2 (.d x)) := fun x ρ k => kn_sub (kn_set k (i := 2) (x := .d x) (by decide) rfl) (by simp)
  obtain ⟨ρ1, g1, e1, k1⟩ := body (st1 (.int 0) k0) (0, cells)
  obtain ⟨ρ2, g2, e2, k2⟩ := body (st1 (.int 1) k1) g1
  obtain ⟨ρ3, g3, e3, k3⟩ := body (st1 (.int 2) k2) g2
  have hi : iRan1 (aCons (eC (.int 3)) aNil) ρ0 (0, cells) = .ok [.int 0, .int 1, .int 2] (0, cells) := rfl
  have s1 : S_law_1 ρ0 (0, cells) = .nx ρ3 g3 := for_eq hi (forL_nx rfl e1 (forL_nx rfl e2 (forL_nx rfl e3 rfl)))
  obtain ⟨m2, hf⟩ := frE
  have s2 := run_rtc (g := g3) hf rfl kn_0 k3 okE
  exact ⟨g3, seq_nx s1 s2⟩
end K46
namespace K46
open PySem
open PySem.Spec
open PyProof.Rows
open L2
open DL
theorem all_mk (hmath : LawMath) {P : Program} {w : World} {K : PySem.W.Frag} {h : Heap} {mg : Str → Option Value} {fa : Addr} (X : K.In h) (G : h.Ns mainGlobals mg) (hfa : mg "law" = some (.ref fa))
    {f0 : Addr} {ocf0 kVf0 dcf0 pmf0 cdf0 ctf0 : Value} {odf0 anf0 : Option Addr} {slf0 : Array (Option Value)}
    {f1 : Addr} {ocf1 kVf1 dcf1 pmf1 cdf1 ctf1 : Value} {odf1 anf1 : Option Addr} {slf1 : Array (Option Value)}
    {f2 : Addr} {ocf2 kVf2 dcf2 pmf2 cdf2 ctf2 : Value} {odf2 anf2 : Option Addr} {slf2 : Array (Option Value)}
    {f3 : Addr} {ocf3 kVf3 dcf3 pmf3 cdf3 ctf3 : Value} {odf3 anf3 : Option Addr} {slf3 : Array (Option Value)}
    {f4 : Addr} {ocf4 kVf4 dcf4 pmf4 cdf4 ctf4 : Value} {odf4 anf4 : Option Addr} {slf4 : Array (Option Value)}
    {f5 : Addr} {ocf5 kVf5 dcf5 pmf5 cdf5 ctf5 : Value} {odf5 anf5 : Option Addr} {slf5 : Array (Option Value)}
    {f6 : Addr} {ocf6 kVf6 dcf6 pmf6 cdf6 ctf6 : Value} {odf6 anf6 : Option Addr} {slf6 : Array (Option Value)}
    {f7 : Addr} {ocf7 kVf7 dcf7 pmf7 cdf7 ctf7 : Value} {odf7 anf7 : Option Addr} {slf7 : Array (Option Value)}
    {f8 : Addr} {ocf8 kVf8 dcf8 pmf8 cdf8 ctf8 : Value} {odf8 anf8 : Option Addr} {slf8 : Array (Option Value)}
    {f9 : Addr} {ocf9 kVf9 dcf9 pmf9 cdf9 ctf9 : Value} {odf9 anf9 : Option Addr} {slf9 : Array (Option Value)}
    {f10 : Addr} {ocf10 kVf10 dcf10 pmf10 cdf10 ctf10 : Value} {odf10 anf10 : Option Addr} {slf10 : Array (Option Value)}
    {f11 : Addr} {ocf11 kVf11 dcf11 pmf11 cdf11 ctf11 : Value} {odf11 anf11 : Option Addr} {slf11 : Array (Option Value)}
    {f12 : Addr} {ocf12 kVf12 dcf12 pmf12 cdf12 ctf12 : Value} {odf12 anf12 : Option Addr} {slf12 : Array (Option Value)}
    {f13 : Addr} {ocf13 kVf13 dcf13 pmf13 cdf13 ctf13 : Value} {odf13 anf13 : Option Addr} {slf13 : Array (Option Value)}
    {f14 : Addr} {ocf14 kVf14 dcf14 pmf14 cdf14 ctf14 : Value} {odf14 anf14 : Option Addr} {slf14 : Array (Option Value)}
    {f15 : Addr} {ocf15 kVf15 dcf15 pmf15 cdf15 ctf15 : Value} {odf15 anf15 : Option Addr} {slf15 : Array (Option Value)}
    {f16 : Addr} {ocf16 kVf16 dcf16 pmf16 cdf16 ctf16 : Value} {odf16 anf16 : Option Addr} {slf16 : Array (Option Value)}
    {f17 : Addr} {ocf17 kVf17 dcf17 pmf17 cdf17 ctf17 : Value} {odf17 anf17 : Option Addr} {slf17 : Array (Option Value)}
    {f18 : Addr} {ocf18 kVf18 dcf18 pmf18 cdf18 ctf18 : Value} {odf18 anf18 : Option Addr} {slf18 : Array (Option Value)}
    {CMisstep fiCMisstep ccCMisstep cdaCMisstep : Addr} {nmCMisstep qCMisstep : Str} {NCMisstep : Addr} {bsCMisstep bmCMisstep : List Value} {snCMisstep : List Str} {subCMisstep : List Value} {abCMisstep : Bool} {colCMisstep : Option Bool} {ddCMisstep : Option Addr} {m0CMisstep m1CMisstep m2CMisstep m3CMisstep m5CMisstep : Option Value}
    {ocxCMisstep kVxCMisstep docxCMisstep pmxCMisstep ctxCMisstep : Value} {odxCMisstep anxCMisstep : Option Addr} {oslxCMisstep : Array (Option Value)} {cclCMisstep : Value} {cddCMisstep : Option Addr} {vsCMisstep : Array Value} {ccsCMisstep : Array (Option Value)} {fileCMisstep : Str} {tfCMisstep : Tok} {clCMisstep : Value} {cldCMisstep : Option Addr} {cslCMisstep : Array (Option Value)} {cdCMisstep : ClassData}
    (af0 : PySem.W.nsIn K mainGlobals "is_whole" = some (some (.ref f0)))
    (lf0 : K.lookup f0 = some ⟨ocf0, odf0, .func (PySem.W.fnOf "is_whole" "is_whole" (defArgs s_is_whole) (defBody s_is_whole) (defScope s_is_whole) .none kVf0 dcf0 pmf0 anf0 cdf0 ctf0), slf0⟩)
    (cf0 : PySem.W.codeIn K cdf0 "is_whole" = true)
    (kf0 : PySem.W.keepIn K (.ref f0) = true)
    (af1 : PySem.W.nsIn K mainGlobals "best_parts" = some (some (.ref f1)))
    (lf1 : K.lookup f1 = some ⟨ocf1, odf1, .func (PySem.W.fnOf "best_parts" "best_parts" (defArgs s_best_parts) (defBody s_best_parts) (defScope s_best_parts) .none kVf1 dcf1 pmf1 anf1 cdf1 ctf1), slf1⟩)
    (cf1 : PySem.W.codeIn K cdf1 "best_parts" = true)
    (kf1 : PySem.W.keepIn K (.ref f1) = true)
    (af2 : PySem.W.nsIn K mainGlobals "between" = some (some (.ref f2)))
    (lf2 : K.lookup f2 = some ⟨ocf2, odf2, .func (PySem.W.fnOf "between" "between" (defArgs s_between) (defBody s_between) (defScope s_between) .none kVf2 dcf2 pmf2 anf2 cdf2 ctf2), slf2⟩)
    (cf2 : PySem.W.codeIn K cdf2 "between" = true)
    (kf2 : PySem.W.keepIn K (.ref f2) = true)
    (af3 : PySem.W.nsIn K mainGlobals "way_to" = some (some (.ref f3)))
    (lf3 : K.lookup f3 = some ⟨ocf3, odf3, .func (PySem.W.fnOf "way_to" "way_to" (defArgs s_way_to) (defBody s_way_to) (defScope s_way_to) .none kVf3 dcf3 pmf3 anf3 cdf3 ctf3), slf3⟩)
    (cf3 : PySem.W.codeIn K cdf3 "way_to" = true)
    (kf3 : PySem.W.keepIn K (.ref f3) = true)
    (af4 : PySem.W.nsIn K mainGlobals "row_of_parts" = some (some (.ref f4)))
    (lf4 : K.lookup f4 = some ⟨ocf4, odf4, .func (PySem.W.fnOf "row_of_parts" "row_of_parts" (defArgs s_row_of_parts) (defBody s_row_of_parts) (defScope s_row_of_parts) .none kVf4 dcf4 pmf4 anf4 cdf4 ctf4), slf4⟩)
    (cf4 : PySem.W.codeIn K cdf4 "row_of_parts" = true)
    (kf4 : PySem.W.keepIn K (.ref f4) = true)
    (af5 : PySem.W.nsIn K mainGlobals "is_three" = some (some (.ref f5)))
    (lf5 : K.lookup f5 = some ⟨ocf5, odf5, .func (PySem.W.fnOf "is_three" "is_three" (defArgs s_is_three) (defBody s_is_three) (defScope s_is_three) .none kVf5 dcf5 pmf5 anf5 cdf5 ctf5), slf5⟩)
    (cf5 : PySem.W.codeIn K cdf5 "is_three" = true)
    (kf5 : PySem.W.keepIn K (.ref f5) = true)
    (af6 : PySem.W.nsIn K mainGlobals "beside" = some (some (.ref f6)))
    (lf6 : K.lookup f6 = some ⟨ocf6, odf6, .func (PySem.W.fnOf "beside" "beside" (defArgs s_beside) (defBody s_beside) (defScope s_beside) .none kVf6 dcf6 pmf6 anf6 cdf6 ctf6), slf6⟩)
    (cf6 : PySem.W.codeIn K cdf6 "beside" = true)
    (kf6 : PySem.W.keepIn K (.ref f6) = true)
    (af7 : PySem.W.nsIn K mainGlobals "way_down" = some (some (.ref f7)))
    (lf7 : K.lookup f7 = some ⟨ocf7, odf7, .func (PySem.W.fnOf "way_down" "way_down" (defArgs s_way_down) (defBody s_way_down) (defScope s_way_down) .none kVf7 dcf7 pmf7 anf7 cdf7 ctf7), slf7⟩)
    (cf7 : PySem.W.codeIn K cdf7 "way_down" = true)
    (kf7 : PySem.W.keepIn K (.ref f7) = true)
    (af8 : PySem.W.nsIn K mainGlobals "threes" = some (some (.ref f8)))
    (lf8 : K.lookup f8 = some ⟨ocf8, odf8, .func (PySem.W.fnOf "threes" "threes" (defArgs s_threes) (defBody s_threes) (defScope s_threes) .none kVf8 dcf8 pmf8 anf8 cdf8 ctf8), slf8⟩)
    (cf8 : PySem.W.codeIn K cdf8 "threes" = true)
    (kf8 : PySem.W.keepIn K (.ref f8) = true)
    (af9 : PySem.W.nsIn K mainGlobals "_law_state" = some (some (.ref f9)))
    (lf9 : K.lookup f9 = some ⟨ocf9, odf9, .func (PySem.W.fnOf "_law_state" "_law_state" (defArgs s__law_state) (defBody s__law_state) (defScope s__law_state) .none kVf9 dcf9 pmf9 anf9 cdf9 ctf9), slf9⟩)
    (cf9 : PySem.W.codeIn K cdf9 "_law_state" = true)
    (kf9 : PySem.W.keepIn K (.ref f9) = true)
    (af10 : PySem.W.nsIn K mainGlobals "_law_take" = some (some (.ref f10)))
    (lf10 : K.lookup f10 = some ⟨ocf10, odf10, .func (PySem.W.fnOf "_law_take" "_law_take" (defArgs s__law_take) (defBody s__law_take) (defScope s__law_take) .none kVf10 dcf10 pmf10 anf10 cdf10 ctf10), slf10⟩)
    (cf10 : PySem.W.codeIn K cdf10 "_law_take" = true)
    (kf10 : PySem.W.keepIn K (.ref f10) = true)
    (af11 : PySem.W.nsIn K mainGlobals "_law_pick" = some (some (.ref f11)))
    (lf11 : K.lookup f11 = some ⟨ocf11, odf11, .func (PySem.W.fnOf "_law_pick" "_law_pick" (defArgs s__law_pick) (defBody s__law_pick) (defScope s__law_pick) .none kVf11 dcf11 pmf11 anf11 cdf11 ctf11), slf11⟩)
    (cf11 : PySem.W.codeIn K cdf11 "_law_pick" = true)
    (kf11 : PySem.W.keepIn K (.ref f11) = true)
    (af12 : PySem.W.nsIn K mainGlobals "_law_divisor" = some (some (.ref f12)))
    (lf12 : K.lookup f12 = some ⟨ocf12, odf12, .func (PySem.W.fnOf "_law_divisor" "_law_divisor" (defArgs s__law_divisor) (defBody s__law_divisor) (defScope s__law_divisor) .none kVf12 dcf12 pmf12 anf12 cdf12 ctf12), slf12⟩)
    (cf12 : PySem.W.codeIn K cdf12 "_law_divisor" = true)
    (kf12 : PySem.W.keepIn K (.ref f12) = true)
    (af13 : PySem.W.nsIn K mainGlobals "_law_best" = some (some (.ref f13)))
    (lf13 : K.lookup f13 = some ⟨ocf13, odf13, .func (PySem.W.fnOf "_law_best" "_law_best" (defArgs s__law_best) (defBody s__law_best) (defScope s__law_best) .none kVf13 dcf13 pmf13 anf13 cdf13 ctf13), slf13⟩)
    (cf13 : PySem.W.codeIn K cdf13 "_law_best" = true)
    (kf13 : PySem.W.keepIn K (.ref f13) = true)
    (af14 : PySem.W.nsIn K mainGlobals "_law_between" = some (some (.ref f14)))
    (lf14 : K.lookup f14 = some ⟨ocf14, odf14, .func (PySem.W.fnOf "_law_between" "_law_between" (defArgs s__law_between) (defBody s__law_between) (defScope s__law_between) .none kVf14 dcf14 pmf14 anf14 cdf14 ctf14), slf14⟩)
    (cf14 : PySem.W.codeIn K cdf14 "_law_between" = true)
    (kf14 : PySem.W.keepIn K (.ref f14) = true)
    (af15 : PySem.W.nsIn K mainGlobals "_law_way" = some (some (.ref f15)))
    (lf15 : K.lookup f15 = some ⟨ocf15, odf15, .func (PySem.W.fnOf "_law_way" "_law_way" (defArgs s__law_way) (defBody s__law_way) (defScope s__law_way) .none kVf15 dcf15 pmf15 anf15 cdf15 ctf15), slf15⟩)
    (cf15 : PySem.W.codeIn K cdf15 "_law_way" = true)
    (kf15 : PySem.W.keepIn K (.ref f15) = true)
    (af16 : PySem.W.nsIn K mainGlobals "_law_threes" = some (some (.ref f16)))
    (lf16 : K.lookup f16 = some ⟨ocf16, odf16, .func (PySem.W.fnOf "_law_threes" "_law_threes" (defArgs s__law_threes) (defBody s__law_threes) (defScope s__law_threes) .none kVf16 dcf16 pmf16 anf16 cdf16 ctf16), slf16⟩)
    (cf16 : PySem.W.codeIn K cdf16 "_law_threes" = true)
    (kf16 : PySem.W.keepIn K (.ref f16) = true)
    (af17 : PySem.W.nsIn K mainGlobals "_law_root" = some (some (.ref f17)))
    (lf17 : K.lookup f17 = some ⟨ocf17, odf17, .func (PySem.W.fnOf "_law_root" "_law_root" (defArgs s__law_root) (defBody s__law_root) (defScope s__law_root) .none kVf17 dcf17 pmf17 anf17 cdf17 ctf17), slf17⟩)
    (cf17 : PySem.W.codeIn K cdf17 "_law_root" = true)
    (kf17 : PySem.W.keepIn K (.ref f17) = true)
    (af18 : PySem.W.nsIn K mainGlobals "law" = some (some (.ref f18)))
    (lf18 : K.lookup f18 = some ⟨ocf18, odf18, .func (PySem.W.fnOf "law" "law" (defArgs s_law) (defBody s_law) (defScope s_law) .none kVf18 dcf18 pmf18 anf18 cdf18 ctf18), slf18⟩)
    (cf18 : PySem.W.codeIn K cdf18 "law" = true)
    (kf18 : PySem.W.keepIn K (.ref f18) = true)
    (z_abs : PySem.W.nsIn K mainGlobals "abs" = some none)
    (z_all : PySem.W.nsIn K mainGlobals "all" = some none)
    (z_bool : PySem.W.nsIn K mainGlobals "bool" = some none)
    (z_int : PySem.W.nsIn K mainGlobals "int" = some none)
    (z_isinstance : PySem.W.nsIn K mainGlobals "isinstance" = some none)
    (z_len : PySem.W.nsIn K mainGlobals "len" = some none)
    (z_range : PySem.W.nsIn K mainGlobals "range" = some none)
    (z_set : PySem.W.nsIn K mainGlobals "set" = some none)
    (z_sorted : PySem.W.nsIn K mainGlobals "sorted" = some none)
    (z_super : PySem.W.nsIn K mainGlobals "super" = some none)
    (z_tuple : PySem.W.nsIn K mainGlobals "tuple" = some none)
    (noany : PySem.W.nsIn K PySem.cStatics "thirdparty.any" = some none)
    (aCCMisstep : PySem.W.nsIn K mainGlobals "Misstep" = some (some (.ref CMisstep)))
    (xLCMisstep : K.lookup CMisstep = some (excClassObj nmCMisstep qCMisstep CMisstep NCMisstep bsCMisstep bmCMisstep true snCMisstep subCMisstep abCMisstep colCMisstep ddCMisstep m0CMisstep m1CMisstep m2CMisstep m3CMisstep m5CMisstep "ValueError.__new__"))
    (hbmCMisstep : PySem.HandSPX.refsVE bmCMisstep = true)
    (saCMisstep : PySem.W.findIn K (.ref CMisstep) "__setattr__" = some (some (.builtin "object.__setattr__")))
    (exCCMisstep : PySem.W.subIn K (.ref CMisstep) (.type "BaseException") = some true)
    (tyCCMisstep : PySem.W.typeIn K (.ref CMisstep) = some (.type "type"))
    (kCCMisstep : PySem.W.keepIn K (.ref CMisstep) = true)
    (iniCMisstep : PySem.W.findIn K (.ref CMisstep) "__init__" = some (some (.ref fiCMisstep)))
    (tyfCMisstep : PySem.W.typeIn K (.ref fiCMisstep) = some (.type "function"))
    (lfCMisstep : K.lookup fiCMisstep = some ⟨ocxCMisstep, odxCMisstep, .func (PySem.W.ksFn "__init__" "Misstep.__init__" (defArgs si_Misstep) (defBody si_Misstep) (defScope si_Misstep) .none kVxCMisstep docxCMisstep pmxCMisstep anxCMisstep (.ref cdaCMisstep) ctxCMisstep ccCMisstep), oslxCMisstep⟩)
    (cfCMisstep : PySem.W.codeIn K (.ref cdaCMisstep) "Misstep.__init__" = true)
    (lcCMisstep : K.lookup cdaCMisstep = some ⟨cclCMisstep, cddCMisstep, .fields vsCMisstep, ccsCMisstep⟩)
    (hvCMisstep : vsCMisstep[2]? = some (.str fileCMisstep tfCMisstep))
    (hfileCMisstep : ((P.main.file : Str) == fileCMisstep) = true)
    (lcellCMisstep : K.lookup ccCMisstep = some ⟨clCMisstep, cldCMisstep, .cell (some (.ref CMisstep)), cslCMisstep⟩)
    (hclsCMisstep : PySem.W.clsIn K CMisstep = some cdCMisstep)
    (hmroCMisstep : PySem.W.mroIn K CMisstep (.ref CMisstep) = some true)
    (supCMisstep : PySem.W.ks_superIn K CMisstep CMisstep "__init__" = some (some (.builtin "ValueError.__init__")))
    (subVCMisstep : PySem.W.subIn K (.ref CMisstep) (.type "ValueError") = some true)
    (topCMisstep : (P.main.scope.names.lookup ("super" : Str)).isSome = false)
    (finCMisstep : PySem.W.findIn K (.ref CMisstep) "word" = some none)
    (gaCMisstep : PySem.W.findIn K (.ref CMisstep) "__getattribute__" = some (some (.builtin "BaseException.__getattribute__")))
    (ggCMisstep : PySem.W.findIn K (.ref CMisstep) "__getattr__" = some none)
    (hdCCMisstep : PySem.W.hasDictIn K CMisstep = true)
    (iclCMisstep : PySem.W.isClsIn K CMisstep = true)
    (sCMisstep_Misstep : PySem.W.subIn K (.ref CMisstep) (.ref CMisstep) = some true)
    : ∃ fd : FuncData, (∀ (s : Shared) (v : Value), BindsTo s fd ⟨[v], []⟩ [("script", v)]) ∧ ∀ base : Heap, K.In base → base.Ns mainGlobals mg → FnOk P w K mg base (L2.CX P w) 4 fa fd ["script"] (spLaw K) := by
  have e := hfa.symm.trans (PySem.W.mg_of X G af18)
  cases e
  let T : Top P K mg := {
    d_is_whole := df_mk X G af0 lf0 cf0 kf0 fun _ _ _ _ _ _ us hl => match us, hl with | [_, _, _], _ => rfl
    d_best_parts := df_mk X G af1 lf1 cf1 kf1 fun _ _ _ _ _ _ us hl => match us, hl with | [_, _, _], _ => rfl
    d_between := df_mk X G af2 lf2 cf2 kf2 fun _ _ _ _ _ _ us hl => match us, hl with | [_, _], _ => rfl
    d_way_to := df_mk X G af3 lf3 cf3 kf3 fun _ _ _ _ _ _ us hl => match us, hl with | [_, _], _ => rfl
    d_row_of_parts := df_mk X G af4 lf4 cf4 kf4 fun _ _ _ _ _ _ us hl => match us, hl with | [_], _ => rfl
    d_is_three := df_mk X G af5 lf5 cf5 kf5 fun _ _ _ _ _ _ us hl => match us, hl with | [_], _ => rfl
    d_beside := df_mk X G af6 lf6 cf6 kf6 fun _ _ _ _ _ _ us hl => match us, hl with | [_], _ => rfl
    d_way_down := df_mk X G af7 lf7 cf7 kf7 fun _ _ _ _ _ _ us hl => match us, hl with | [_], _ => rfl
    d_threes := df_mk X G af8 lf8 cf8 kf8 fun _ _ _ _ _ _ us hl => match us, hl with | [_], _ => rfl
    d__law_state := df_mk X G af9 lf9 cf9 kf9 fun _ _ _ _ _ _ us hl => match us, hl with | [_], _ => rfl
    d__law_take := df_mk X G af10 lf10 cf10 kf10 fun _ _ _ _ _ _ us hl => match us, hl with | [_, _], _ => rfl
    d__law_pick := df_mk X G af11 lf11 cf11 kf11 fun _ _ _ _ _ _ us hl => match us, hl with | [_, _], _ => rfl
    d__law_divisor := df_mk X G af12 lf12 cf12 kf12 fun _ _ _ _ _ _ us hl => match us, hl with | [_, _], _ => rfl
    d__law_best := df_mk X G af13 lf13 cf13 kf13 fun _ _ _ _ _ _ us hl => match us, hl with | [_, _, _], _ => rfl
    d__law_between := df_mk X G af14 lf14 cf14 kf14 fun _ _ _ _ _ _ us hl => match us, hl with | [_, _], _ => rfl
    d__law_way := df_mk X G af15 lf15 cf15 kf15 fun _ _ _ _ _ _ us hl => match us, hl with | [_], _ => rfl
    d__law_threes := df_mk X G af16 lf16 cf16 kf16 fun _ _ _ _ _ _ us hl => match us, hl with | [_], _ => rfl
    d__law_root := df_mk X G af17 lf17 cf17 kf17 fun _ _ _ _ _ _ us hl => match us, hl with | [_], _ => rfl
    d_law := df_mk X G af18 lf18 cf18 kf18 fun _ _ _ _ _ _ us hl => match us, hl with | [_], _ => rfl
    b_abs := PySem.W.mg_none_of X G z_abs
    b_all := PySem.W.mg_none_of X G z_all
    b_bool := PySem.W.mg_none_of X G z_bool
    b_int := PySem.W.mg_none_of X G z_int
    b_isinstance := PySem.W.mg_none_of X G z_isinstance
    b_len := PySem.W.mg_none_of X G z_len
    b_range := PySem.W.mg_none_of X G z_range
    b_set := PySem.W.mg_none_of X G z_set
    b_sorted := PySem.W.mg_none_of X G z_sorted
    b_super := PySem.W.mg_none_of X G z_super
    b_tuple := PySem.W.mg_none_of X G z_tuple
    e_Misstep := ex_mk X G aCCMisstep xLCMisstep hbmCMisstep saCMisstep exCCMisstep tyCCMisstep kCCMisstep iniCMisstep tyfCMisstep lfCMisstep cfCMisstep lcCMisstep hvCMisstep hfileCMisstep lcellCMisstep hclsCMisstep hmroCMisstep supCMisstep subVCMisstep z_super noany topCMisstep finCMisstep gaCMisstep ggCMisstep hdCCMisstep fun _ _ _ _ _ _ _ us hl => match us, hl with | [_, _], _ => rfl
    x_Misstep_Misstep := exm_of exCCMisstep iclCMisstep tyCCMisstep sCMisstep_Misstep }
  exact ⟨_, fun s v => .of_eq rfl, fun base _ _ => ok_law hmath T⟩
end K46
open PySem
open PySem.W
open PyProof.Rows
theorem PySem.Challenge.cw_formsoftwo_k46_whole_best_parts_and_thre_holds : PySem.Challenge.rw_formsoftwo_k46_whole_best_parts_and_thre.Holds := by
  w_on; o_law; k_head; (case hw => w_witness2)
  k_fill
  refine L2.walk_of (l := PySem.Challenge.rw_formsoftwo_k46_whole_best_parts_and_thre) (n := 63) (k := 4) (x := "script") (CX := fun w => L2.CX (PySem.Challenge.rw_formsoftwo_k46_whole_best_parts_and_thre).prog w) (sp := fun w => DL.spLaw _) rfl (by decide) rfl ⟨rfl, by decide, by decide⟩ (fun w h Y => PySem.W.kIn_of Y) ?F (fun _ _ a ns hl _ hS => ⟨a, ns, rfl, hS, hl, fun _ => rfl⟩) (fun _ _ _ _ _ h => by obtain ⟨_, _, _, _, _, _, _, _, _, _, _, _, z⟩ := h; exact z.elim)
  case F =>
    intro w mg fa h KX G hmg
    refine' K46.all_mk K46.law_math KX G hmg ?af0 ?lf0 ?cf0 ?kf0 ?af1 ?lf1 ?cf1 ?kf1 ?af2 ?lf2 ?cf2 ?kf2 ?af3 ?lf3 ?cf3 ?kf3 ?af4 ?lf4 ?cf4 ?kf4 ?af5 ?lf5 ?cf5 ?kf5 ?af6 ?lf6 ?cf6 ?kf6 ?af7 ?lf7 ?cf7 ?kf7 ?af8 ?lf8 ?cf8 ?kf8 ?af9 ?lf9 ?cf9 ?kf9 ?af10 ?lf10 ?cf10 ?kf10 ?af11 ?lf11 ?cf11 ?kf11 ?af12 ?lf12 ?cf12 ?kf12 ?af13 ?lf13 ?cf13 ?kf13 ?af14 ?lf14 ?cf14 ?kf14 ?af15 ?lf15 ?cf15 ?kf15 ?af16 ?lf16 ?cf16 ?kf16 ?af17 ?lf17 ?cf17 ?kf17 ?af18 ?lf18 ?cf18 ?kf18 ?z_abs ?z_all ?z_bool ?z_int ?z_isinstance ?z_len ?z_range ?z_set ?z_sorted ?z_super ?z_tuple ?noany ?aCCMisstep ?xLCMisstep ?hbmCMisstep ?saCMisstep ?exCCMisstep ?tyCCMisstep ?kCCMisstep ?iniCMisstep ?tyfCMisstep ?lfCMisstep ?cfCMisstep ?lcCMisstep ?hvCMisstep ?hfileCMisstep ?lcellCMisstep ?hclsCMisstep ?hmroCMisstep ?supCMisstep ?subVCMisstep ?topCMisstep ?finCMisstep ?gaCMisstep ?ggCMisstep ?hdCCMisstep ?iclCMisstep ?sCMisstep_Misstep
    (case af0 => k_is)
    (case lf0 => k_is)
    (case cf0 => k_is)
    (case kf0 => k_is)
    (case af1 => k_is)
    (case lf1 => k_is)
    (case cf1 => k_is)
    (case kf1 => k_is)
    (case af2 => k_is)
    (case lf2 => k_is)
    (case cf2 => k_is)
    (case kf2 => k_is)
    (case af3 => k_is)
    (case lf3 => k_is)
    (case cf3 => k_is)
    (case kf3 => k_is)
    (case af4 => k_is)
    (case lf4 => k_is)
    (case cf4 => k_is)
    (case kf4 => k_is)
    (case af5 => k_is)
    (case lf5 => k_is)
    (case cf5 => k_is)
    (case kf5 => k_is)
    (case af6 => k_is)
    (case lf6 => k_is)
    (case cf6 => k_is)
    (case kf6 => k_is)
    (case af7 => k_is)
    (case lf7 => k_is)
    (case cf7 => k_is)
    (case kf7 => k_is)
    (case af8 => k_is)
    (case lf8 => k_is)
    (case cf8 => k_is)
    (case kf8 => k_is)
    (case af9 => k_is)
    (case lf9 => k_is)
    (case cf9 => k_is)
    (case kf9 => k_is)
    (case af10 => k_is)
    (case lf10 => k_is)
    (case cf10 => k_is)
    (case kf10 => k_is)
    (case af11 => k_is)
    (case lf11 => k_is)
    (case cf11 => k_is)
    (case kf11 => k_is)
    (case af12 => k_is)
    (case lf12 => k_is)
    (case cf12 => k_is)
    (case kf12 => k_is)
    (case af13 => k_is)
    (case lf13 => k_is)
    (case cf13 => k_is)
    (case kf13 => k_is)
    (case af14 => k_is)
    (case lf14 => k_is)
    (case cf14 => k_is)
    (case kf14 => k_is)
    (case af15 => k_is)
    (case lf15 => k_is)
    (case cf15 => k_is)
    (case kf15 => k_is)
    (case af16 => k_is)
    (case lf16 => k_is)
    (case cf16 => k_is)
    (case kf16 => k_is)
    (case af17 => k_is)
    (case lf17 => k_is)
    (case cf17 => k_is)
    (case kf17 => k_is)
    (case af18 => k_is)
    (case lf18 => k_is)
    (case cf18 => k_is)
    (case kf18 => k_is)
    (case z_abs => k_is)
    (case z_all => k_is)
    (case z_bool => k_is)
    (case z_int => k_is)
    (case z_isinstance => k_is)
    (case z_len => k_is)
    (case z_range => k_is)
    (case z_set => k_is)
    (case z_sorted => k_is)
    (case z_super => k_is)
    (case z_tuple => k_is)
    (case noany => k_is)
    (case aCCMisstep => k_is)
    (case xLCMisstep => k_is)
    (case hbmCMisstep => decide +kernel)
    (case saCMisstep => k_is)
    (case exCCMisstep => k_is)
    (case tyCCMisstep => k_is)
    (case kCCMisstep => k_is)
    (case iniCMisstep => k_is)
    (case tyfCMisstep => k_is)
    (case lfCMisstep => k_is)
    (case cfCMisstep => k_is)
    (case lcCMisstep => k_is)
    (case hvCMisstep => first | rfl | decide +kernel)
    (case hfileCMisstep => first | rfl | decide +kernel)
    (case lcellCMisstep => k_is)
    (case hclsCMisstep => k_is)
    (case hmroCMisstep => k_is)
    (case supCMisstep => ks_is)
    (case subVCMisstep => k_is)
    (case topCMisstep => first | rfl | decide +kernel)
    (case finCMisstep => k_is)
    (case gaCMisstep => k_is)
    (case ggCMisstep => k_is)
    (case hdCCMisstep => k_is)
    (case iclCMisstep => k_is)
    (case sCMisstep_Misstep => first | rfl | k_is)
