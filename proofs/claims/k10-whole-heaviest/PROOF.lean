import PyProof.Rows.All
import Wide.All
import OpenK.AllK
import Wide.FinOn
import HandS.ForMost
import HandS.Walk
import HandS.ForExc
import HandS.ExcInit
import HandS.ExcField
import HandS.TryMany
import HandS.Lambda
import HandS.EndTab
import HandS.Style
import HandS.More
import HandS.TupAny
import HandS.Wide
import HandS.WordsDict
import HandS.IsInst
import HandS.Zip
import KE.KExcSuper
import KE.KExcInit
import KE.RegKSuper
import HandS.Dict
import HandS.Codes
import HandS.SlotsOwn
import PyProof.Rows.PlainNe
import KE.GoesEnum
import PyProof.EnumMake
import HandS.TryOnly
import HandS.Conv
import PyProof.StrBlock2
import HandS.TupMul
import KE.KEqNest
import PyProof.NeKinds
import HandS.SortRule
import HandS.SortInts
import HandS.Deep
import HandS.TupSets
import HandS.Head0
import HandS.Head1
import HandS.Head2
import HandS.HeadEnd
import HandS.HeadHook1
import HandS.HeadHook2
import HandS.HeadHook3
import HandS.HeadHook4
import HandS.HeadWalk
import PySem.Challenge.RW_weaktalks_k10_whole_heaviest
set_option Elab.async false
set_option linter.all false
set_option maxRecDepth 100000
set_option maxHeartbeats 2000000
namespace DL
open PySem PySem.Spec PyProof.Rows L2

/-- data, whole: what a value stands for where nothing is written to it any more -/
inductive D where
  | non | bl (b : Bool) | int (i : Int) | str (x : Str)
  | lst (l : List D) | tup (l : List D)
  | dct (ks : List Key) (l : List D)
  | obj (C : Addr) (ns : List Str) (l : List D)
  | ty (n : String)
  | ref (a : Addr)
  /-- an exception held by an except clause -/
  | exc (a dd C : Addr) (ns : List Str) (l : List D)

mutual
inductive Rep (K : PySem.W.Frag) (k : Hp) : V → D → Prop
  | non : Rep K k .non .non
  | bl (b : Bool) : Rep K k (.bl b) (.bl b)
  | int (i : Int) : Rep K k (.int i) (.int i)
  | str (x : Str) : Rep K k (.str x) (.str x)
  | lst {a : Addr} {vs : List V} {ds : List D} : k a = some (.lst vs) → RepL K k vs ds → Rep K k (.ref a) (.lst ds)
  | tup {a : Addr} {vs : List V} {ds : List D} : SqT K k a vs → RepL K k vs ds → Rep K k (.ref a) (.tup ds)
  | dct {a : Addr} {kvs : List (Key × V)} {ks : List Key} {ds : List D} : k a = some (.dK kvs) → kvs.map (·.1) = ks → RepL K k (kvs.map (·.2)) ds → Rep K k (.ref a) (.dct ks ds)
  | obj {a C dx : Addr} {fs : List (Str × V)} {ns : List Str} {ds : List D} : k a = some (.ins C dx fs) → fs.map (·.1) = ns → RepL K k (fs.map (·.2)) ds → Rep K k (.ref a) (.obj C ns ds)
  | ty (n : String) : Rep K k (.ty n) (.ty n)
  | ref (a : Addr) : Rep K k (.ref a) (.ref a)
  | exc {a dd C : Addr} {fs : List (Str × V)} {ns : List Str} {ds : List D} : k dd = some (.xd fs) → fs.map (·.1) = ns → RepL K k (fs.map (·.2)) ds → Rep K k (.ref a) (.exc a dd C ns ds)
inductive RepL (K : PySem.W.Frag) (k : Hp) : List V → List D → Prop
  | nil : RepL K k [] []
  | cons {v : V} {vs : List V} {d : D} {ds : List D} : Rep K k v d → RepL K k vs ds → RepL K k (v :: vs) (d :: ds)
end

section
variable {K : PySem.W.Frag} {k k' : Hp}
theorem Same.rd (e : Same k k') {a : Addr} {u : HO} (h : Rd k a u) : Rd k' a u := by
  rcases h with h | ⟨o, h⟩
  · exact .inl (e _ _ h)
  · exact .inr ⟨o, e _ _ h⟩
theorem Same.sqt (e : Same k k') {a : Addr} {xs : List V} (h : SqT K k a xs) : SqT K k' a xs := by
  rcases h with h | h
  · exact .inl (Same.rd e h)
  · exact .inr h
mutual
theorem Rep.mono (e : Same k k') : ∀ {v : V} {d : D}, Rep K k v d → Rep K k' v d
  | _, _, .non => .non
  | _, _, .bl b => .bl b
  | _, _, .int i => .int i
  | _, _, .str x => .str x
  | _, _, .lst h r => .lst (e _ _ h) (RepL.mono e r)
  | _, _, .tup h r => .tup (Same.sqt e h) (RepL.mono e r)
  | _, _, .dct h q r => .dct (e _ _ h) q (RepL.mono e r)
  | _, _, .obj h q r => .obj (e _ _ h) q (RepL.mono e r)
  | _, _, .ty n => .ty n
  | _, _, .ref a => .ref a
  | _, _, .exc h q r => .exc (e _ _ h) q (RepL.mono e r)
theorem RepL.mono (e : Same k k') : ∀ {vs : List V} {ds : List D}, RepL K k vs ds → RepL K k' vs ds
  | _, _, .nil => .nil
  | _, _, .cons h r => .cons (Rep.mono e h) (RepL.mono e r)
end
theorem RepL.length : ∀ {vs : List V} {ds : List D}, RepL K k vs ds → vs.length = ds.length
  | _, _, .nil => rfl
  | _, _, .cons _ r => by rw [List.length_cons, List.length_cons, RepL.length r]
theorem RepL.get : ∀ {vs : List V} {ds : List D} {i : Nat} {d : D}, RepL K k vs ds → ds[i]? = some d → ∃ v, vs[i]? = some v ∧ Rep K k v d
  | _, _, _, _, .nil, e => by simp at e
  | _, _, 0, _, .cons h _, e => by simp at e; subst e; exact ⟨_, rfl, h⟩
  | _, _, i + 1, d, .cons _ r, e => by
    obtain ⟨v, h1, h2⟩ := RepL.get (i := i) (d := d) r (by simpa using e)
    exact ⟨v, by simpa using h1, h2⟩
theorem RepL.getV : ∀ {vs : List V} {ds : List D} {i : Nat} {v : V}, RepL K k vs ds → vs[i]? = some v → ∃ d, ds[i]? = some d ∧ Rep K k v d
  | _, _, _, _, .nil, e => by simp at e
  | _, _, 0, _, .cons h _, e => by simp at e; subst e; exact ⟨_, rfl, h⟩
  | _, _, i + 1, v, .cons _ r, e => by
    obtain ⟨d, h1, h2⟩ := RepL.getV (i := i) (v := v) r (by simpa using e)
    exact ⟨d, by simpa using h1, h2⟩
theorem RepL.append : ∀ {vs ws : List V} {ds es : List D}, RepL K k vs ds → RepL K k ws es → RepL K k (vs ++ ws) (ds ++ es)
  | _, _, _, _, .nil, s => s
  | _, _, _, _, .cons h r, s => .cons h (RepL.append r s)
theorem RepL.take : ∀ {vs : List V} {ds : List D} (n : Nat), RepL K k vs ds → RepL K k (vs.take n) (ds.take n)
  | _, _, 0, _ => .nil
  | _, _, _ + 1, .nil => .nil
  | _, _, n + 1, .cons h r => .cons h (RepL.take n r)
theorem RepL.drop : ∀ {vs : List V} {ds : List D} (n : Nat), RepL K k vs ds → RepL K k (vs.drop n) (ds.drop n)
  | _, _, 0, r => r
  | _, _, _ + 1, .nil => .nil
  | _, _, n + 1, .cons _ r => RepL.drop n r
theorem RepL.reverse {vs : List V} {ds : List D} (h : RepL K k vs ds) : RepL K k vs.reverse ds.reverse := by
  induction h using RepL.rec (motive_1 := fun _ _ _ => True) with
  | nil => exact .nil
  | cons h r ih1 ih2 =>
    rw [List.reverse_cons, List.reverse_cons]
    exact RepL.append ih2 (.cons h .nil)
  | _ => trivial
theorem RepL.set {v : V} {d : D} (h : Rep K k v d) : ∀ {vs : List V} {ds : List D} (i : Nat), RepL K k vs ds → RepL K k (vs.set i v) (ds.set i d)
  | _, _, _, .nil => .nil
  | _, _, 0, .cons _ r => .cons h r
  | _, _, i + 1, .cons q r => .cons q (RepL.set h i r)
theorem RepL.eraseIdx : ∀ {vs : List V} {ds : List D} (i : Nat), RepL K k vs ds → RepL K k (vs.eraseIdx i) (ds.eraseIdx i)
  | _, _, _, .nil => .nil
  | _, _, 0, .cons _ r => r
  | _, _, i + 1, .cons q r => .cons q (RepL.eraseIdx i r)
theorem RepL.ints : ∀ {vs : List V} {ns : List Int}, RepL K k vs (ns.map D.int) → vs = ns.map V.int
  | _, [], .nil => rfl
  | _, n :: ns, .cons (.int _) r => by rw [List.map_cons, RepL.ints r]
theorem RepL.ofInts : ∀ (ns : List Int), RepL K k (ns.map V.int) (ns.map D.int)
  | [] => .nil
  | n :: ns => .cons (.int n) (RepL.ofInts ns)
end

/-! ### what grows -/
/-- k: what is known and stays; h: the whole; W: what may be written -/
structure Grow (W : Addr → Prop) (k h k' h' : Hp) : Prop where
  kk : Same k k'
  kh : Same k' h'
  hh : ∀ a o, ¬ W a → h a = some o → h' a = some o
  hd : ∀ a, h a ≠ none → h' a ≠ none
  dj : ∀ a, k a = none → h a ≠ none → k' a = none
  kt : ∀ a ps, k' a = some (.tbl ps) → k a = some (.tbl ps)
/-- no table of code objects -/
abbrev NT (o : HO) : Prop := ∀ ps, o ≠ .tbl ps
section
variable {W W' : Addr → Prop} {k h k' h' k2 h2 : Hp}
theorem Grow.refl (e : Same k h) : Grow W k h k h := ⟨Same.refl _, e, fun _ _ _ q => q, fun _ q => q, fun _ q _ => q, fun _ _ q => q⟩
theorem Grow.trans (a : Grow W k h k' h') (b : Grow W k' h' k2 h2) : Grow W k h k2 h2 :=
  ⟨a.kk.trans b.kk, b.kh, fun x o n q => b.hh x o n (a.hh x o n q), fun x q => b.hd x (a.hd x q), fun x q n => b.dj x (a.dj x q n) (a.hd x n), fun x ps q => a.kt x ps (b.kt x ps q)⟩
theorem Grow.wide (a : Grow W k h k' h') (s : ∀ x, W x → W' x) : Grow W' k h k' h' := ⟨a.kk, a.kh, fun x o n q => a.hh x o (fun z => n (s x z)) q, a.hd, a.dj, a.kt⟩
theorem same_new {H : Hp} {p : Addr} {o : HO} (h : H p = none) : Same H (upd H p o) := fun b x e => by
  rw [upd_ne (ne_of_none e h)]
  exact e
/-- a new object that is known from now on -/
theorem Grow.new {p : Addr} {o : HO} (e : Same k h) (n : h p = none) (t : NT o) : Grow W k h (upd k p o) (upd h p o) := by
  have nk : k p = none := e.free n
  refine ⟨same_new nk, fun b x q => ?_, fun a x _ q => same_new n a x q, fun a q => ?_, fun a q z => ?_, fun a ps q => ?_⟩
  · by_cases hb : b = p
    · subst hb
      rw [upd_same] at q ⊢
      exact q
    · rw [upd_ne hb] at q ⊢
      exact e _ _ q
  · by_cases hb : a = p
    · subst hb
      rw [upd_same]
      simp
    · rw [upd_ne hb]
      exact q
  · have hb : a ≠ p := fun y => z (by rw [y]; exact n)
    rw [upd_ne hb]
    exact q
  · by_cases hb : a = p
    · subst hb
      rw [upd_same] at q
      exact absurd (Option.some.inj q) (t ps)
    · rw [upd_ne hb] at q
      exact q
/-- a new object that is not known as yet -/
theorem Grow.newU {p : Addr} {o : HO} (e : Same k h) (n : h p = none) : Grow W k h k (upd h p o) :=
  ⟨Same.refl _, e.trans (same_new n), fun a x _ q => same_new n a x q, fun a q => by
    by_cases hb : a = p
    · subst hb
      rw [upd_same]
      simp
    · rw [upd_ne hb]
      exact q, fun a q _ => q, fun _ _ q => q⟩
end

/-- a mutable object -/
inductive MO where
  | lst (l : List D)
  | ins (C dx : Addr) (ns : List Str) (l : List D)
  | dct (ks : List Key) (l : List D)
/-- it stands at o -/
def MoR (K : PySem.W.Frag) (k h : Hp) (o : Addr) : MO → Prop
  | .lst ds => ∃ vs, h o = some (.lst vs) ∧ RepL K k vs ds
  | .ins C dx ns ds => ∃ fs : List (Str × V), h o = some (.ins C dx fs) ∧ fs.map (·.1) = ns ∧ RepL K k (fs.map (·.2)) ds
  | .dct ks ds => ∃ kvs : List (Key × V), h o = some (.dK kvs) ∧ kvs.map (·.1) = ks ∧ RepL K k (kvs.map (·.2)) ds

/-- what is written through a call and stays in its form: W, and its form I by a count -/
def IsExt : HO → Prop
  | .ext _ => True
  | _ => False
structure Res where
  W : Addr → Prop
  I : Nat → Hp → Prop
  st : ∀ b h h', (∀ a o, W a ∨ IsExt o → h a = some o → h' a = some o) → I b h → I b h'
def Res.none : Res := ⟨fun _ => False, fun _ _ => True, fun _ _ _ _ h => h⟩

/-- where one stands: slots, mutable objects, the count -/
structure Sta where
  δ : List (Option D)
  m : List (Addr × MO) := []
  b : Nat := 0

/-- the def's entry -/
structure Cn where
  K : PySem.W.Frag
  R : Res
  k0 : Hp
  h0 : Hp
  /-- all mutable objects are the def's own -/
  fr : Bool := true
  /-- what was known at a place that all later states bear -/
  kb : Hp := fun _ => none

structure SR (c : Cn) (ς : Sta) (σ : L2.St) (k h : Hp) : Prop where
  g : Grow c.R.W c.k0 c.h0 k h
  i : c.R.I ς.b h
  w : ∀ a, c.R.W a → c.k0 a = none ∧ c.h0 a ≠ none
  s : ∀ (i : Nat) (d : D), ς.δ[i]? = some (some d) → ∃ v, σ[i]? = some (some v) ∧ Rep c.K k v d
  m : ∀ p ∈ ς.m, k p.1 = none ∧ (c.h0 p.1 = none ∨ (c.fr = false ∧ c.R.W p.1)) ∧ MoR c.K k h p.1 p.2
  nd : (ς.m.map (·.1)).Nodup
  len : ς.δ.length = σ.length
  kb : Same c.kb k

section
variable {c : Cn} {ς : Sta} {σ : L2.St} {k h k' h' : Hp}
theorem SR.kh (S : SR c ς σ k h) : Same k h := S.g.kh
theorem MoR.step {K : PySem.W.Frag} {o : Addr} {mo : MO} (r : MoR K k h o mo) (e : Same k k') (hh : ∀ a u, h a = some u → h' a = some u) : MoR K k' h' o mo := by
  cases mo with
  | lst ds => obtain ⟨vs, q, r⟩ := r; exact ⟨vs, hh _ _ q, r.mono e⟩
  | ins C dx ns ds => obtain ⟨fs, q, n, r⟩ := r; exact ⟨fs, hh _ _ q, n, r.mono e⟩
  | dct ks ds => obtain ⟨kvs, q, n, r⟩ := r; exact ⟨kvs, hh _ _ q, n, r.mono e⟩
theorem MoR.there {K : PySem.W.Frag} {o : Addr} {mo : MO} (r : MoR K k h o mo) : h o ≠ none := by
  cases mo with
  | lst ds => obtain ⟨vs, q, _⟩ := r; rw [q]; simp
  | ins C dx ns ds => obtain ⟨fs, q, _⟩ := r; rw [q]; simp
  | dct ks ds => obtain ⟨kvs, q, _⟩ := r; rw [q]; simp
/-- objects are made, nothing that stood is written -/
theorem SR.grow (S : SR c ς σ k h) (g : Grow (fun _ => False) k h k' h') : SR c ς σ k' h' := by
  have hh : ∀ a o, h a = some o → h' a = some o := fun a o q => g.hh a o (fun z => z) q
  refine ⟨S.g.trans (g.wide fun _ z => z.elim), c.R.st _ _ _ (fun a o _ q => hh a o q) S.i, S.w, fun i d q => ?_, fun p hp => ?_, S.nd, S.len, S.kb.trans g.kk⟩
  · obtain ⟨v, e, r⟩ := S.s i d q
    exact ⟨v, e, r.mono g.kk⟩
  · obtain ⟨a, b, r⟩ := S.m p hp
    exact ⟨g.dj _ a r.there, b, r.step g.kk hh⟩
end
end DL

set_option Elab.async false
set_option linter.all false
set_option maxRecDepth 100000
set_option maxHeartbeats 2000000
namespace DL
open PySem PySem.Spec PyProof.Rows L2

/-! ### the judgements over data -/
def WE (c : Cn) (te : TE) (ς : Sta) (Φ : D → Sta → Prop) : Prop :=
  ∀ (σ : L2.St) (k h : Hp), SR c ς σ k h → ∀ Q : VK, (∀ v k' h' d ς', SR c ς' σ k' h' → Same k k' → Rep c.K k' v d → Φ d ς' → Q v h') → te σ h Q
def WL (c : Cn) (ta : TA) (ς : Sta) (Φ : List D → Sta → Prop) : Prop :=
  ∀ (σ : L2.St) (k h : Hp), SR c ς σ k h → ∀ Q : List V → Hp → Prop, (∀ vs k' h' ds ς', SR c ς' σ k' h' → Same k k' → RepL c.K k' vs ds → Φ ds ς' → Q vs h') → ta σ h Q
def WT (c : Cn) (tt : TT) (ς : Sta) (Φ : Bool → Sta → Prop) : Prop :=
  ∀ (σ : L2.St) (k h : Hp), SR c ς σ k h → ∀ Q : Bool → Hp → Prop, (∀ b k' h' ς', SR c ς' σ k' h' → Same k k' → Φ b ς' → Q b h') → tt σ h Q
/-- a target is given d -/
def WG (c : Cn) (g : TG) (d : D) (ς : Sta) (Φ : Sta → Prop) : Prop :=
  ∀ (σ : L2.St) (k h : Hp) (v : V), SR c ς σ k h → Rep c.K k v d → ∀ Q : L2.St → Hp → Prop, (∀ σ' k' h' ς', SR c ς' σ' k' h' → Same k k' → Φ ς' → Q σ' h') → g v σ h Q
def WGs (c : Cn) (g : TGs) (ds : List D) (ς : Sta) (Φ : Sta → Prop) : Prop :=
  ∀ (σ : L2.St) (k h : Hp) (vs : List V), SR c ς σ k h → RepL c.K k vs ds → ∀ Q : L2.St → Hp → Prop, (∀ σ' k' h' ς', SR c ς' σ' k' h' → Same k k' → Φ ς' → Q σ' h') → g vs σ h Q
structure Psi where
  nx : Sta → Prop
  rt : D → Sta → Prop
  bk : Sta → Prop := fun _ => False
  ct : Sta → Prop := fun _ => False
/-- what the ends bear, k onwards -/
structure EndOk (c : Cn) (k : Hp) (Ψ : Psi) (E : Ends) : Prop where
  nx : ∀ σ' k' h' ς', SR c ς' σ' k' h' → Same k k' → Ψ.nx ς' → E.nx σ' h'
  bk : ∀ σ' k' h' ς', SR c ς' σ' k' h' → Same k k' → Ψ.bk ς' → E.bk σ' h'
  ct : ∀ σ' k' h' ς', SR c ς' σ' k' h' → Same k k' → Ψ.ct ς' → E.ct σ' h'
  rt : ∀ v σ' k' h' d ς', SR c ς' σ' k' h' → Same k k' → Rep c.K k' v d → Ψ.rt d ς' → E.rt v h'
theorem EndOk.later {c : Cn} {k k' : Hp} {Ψ : Psi} {E : Ends} (o : EndOk c k Ψ E) (e : Same k k') : EndOk c k' Ψ E :=
  ⟨fun a b d f s q => o.nx a b d f s (e.trans q), fun a b d f s q => o.bk a b d f s (e.trans q), fun a b d f s q => o.ct a b d f s (e.trans q), fun a b d f g i s q => o.rt a b d f g i s (e.trans q)⟩
def WS (c : Cn) (ts : TS) (ς : Sta) (Ψ : Psi) : Prop :=
  ∀ (σ : L2.St) (k h : Hp), SR c ς σ k h → ∀ E : Ends, EndOk c k Ψ E → ts E σ h
/-- an operator's, a call's reading by data -/
def RD (K : PySem.W.Frag) (r : R2) (d1 d2 : D) (Φ : D → Prop) : Prop :=
  ∀ (k h : Hp) (v1 v2 : V), Same k h → Rep K k v1 d1 → Rep K k v2 d2 → ∀ Q : VK, (∀ v k' h' d, Grow (fun _ => False) k h k' h' → Rep K k' v d → Φ d → Q v h') → r v1 v2 h Q
def RU (K : PySem.W.Frag) (r : V → Hp → VK → Prop) (d1 : D) (Φ : D → Prop) : Prop :=
  ∀ (k h : Hp) (v1 : V), Same k h → Rep K k v1 d1 → ∀ Q : VK, (∀ v k' h' d, Grow (fun _ => False) k h k' h' → Rep K k' v d → Φ d → Q v h') → r v1 h Q
def RC (K : PySem.W.Frag) (r : List V → Hp → VK → Prop) (ds : List D) (Φ : D → Prop) : Prop :=
  ∀ (k h : Hp) (vs : List V), Same k h → RepL K k vs ds → ∀ Q : VK, (∀ v k' h' d, Grow (fun _ => False) k h k' h' → Rep K k' v d → Φ d → Q v h') → r vs h Q
/-- a thing walked: its items -/
structure StK (c : Cn) (k h : Hp) : Prop where
  same : Same k h
  sr : ∃ (ς : Sta) (σ : L2.St) (k' : Hp), SR c ς σ k' h ∧ Same k k'
structure WalkD (c : Cn) (J : It) (k : Hp) (ds : List D) : Prop where
  goes : ∀ i h, i < ds.length → StK c k h → J.go i h
  stops : ∀ h, StK c k h → J.stop ds.length h
  yields : ∀ i h x h' d, ds[i]? = some d → J.yld i h x h' → ∀ kc, Same k kc → StK c kc h → ∃ k', Grow (fun _ => False) kc h k' h' ∧ Rep c.K k' x d
def WI (c : Cn) (wi : TI) (ς : Sta) (Φ : List D → Sta → Prop) : Prop :=
  ∀ (σ : L2.St) (k h : Hp), SR c ς σ k h → ∀ R : It → Hp → Prop, (∀ J k' h' ds ς', SR c ς' σ k' h' → Same k k' → WalkD c J k' ds → Φ ds ς' → R J h') → wi σ h R

section
variable {c : Cn} {ς : Sta} {Φ : D → Sta → Prop} {Ψ : Psi}
/-! ### expressions -/
theorem we_var {i : Nat} {d : D} (e : ς.δ[i]? = some (some d)) (q : Φ d ς) : WE c (tVar i) ς Φ := fun σ k h S Q z => by
  obtain ⟨v, hv, r⟩ := S.s i d e
  exact ⟨v, hv, z v k h d ς S (Same.refl _) r q⟩
theorem we_int {i : Int} (q : Φ (.int i) ς) : WE c (tC (.int i)) ς Φ := fun σ k h S Q z => z _ k h _ ς S (Same.refl _) (.int i) q
theorem we_bl {b : Bool} (q : Φ (.bl b) ς) : WE c (tC (.bl b)) ς Φ := fun σ k h S Q z => z _ k h _ ς S (Same.refl _) (.bl b) q
theorem we_str {x : Str} (q : Φ (.str x) ς) : WE c (tC (.str x)) ς Φ := fun σ k h S Q z => z _ k h _ ς S (Same.refl _) (.str x) q
theorem we_non (q : Φ .non ς) : WE c (tC .non) ς Φ := fun σ k h S Q z => z _ k h _ ς S (Same.refl _) .non q
theorem we_ty {n : String} (q : Φ (.ty n) ς) : WE c (tC (.ty n)) ς Φ := fun σ k h S Q z => z _ k h _ ς S (Same.refl _) (.ty n) q
theorem we_ref {a : Addr} (q : Φ (.ref a) ς) : WE c (tC (.ref a)) ς Φ := fun σ k h S Q z => z _ k h _ ς S (Same.refl _) (.ref a) q
theorem we_mono {te : TE} {Φ' : D → Sta → Prop} (h : WE c te ς Φ') (q : ∀ d ς', Φ' d ς' → Φ d ς') : WE c te ς Φ := fun σ k hh S Q z =>
  h σ k hh S Q fun v k' h' d ς' S' e r p => z v k' h' d ς' S' e r (q d ς' p)
theorem ws_mono {ts : TS} {Ψ' : Psi} (h : WS c ts ς Ψ') (q1 : ∀ ς', Ψ'.nx ς' → Ψ.nx ς') (q2 : ∀ d b, Ψ'.rt d b → Ψ.rt d b) (q3 : ∀ ς', Ψ'.bk ς' → Ψ.bk ς') (q4 : ∀ ς', Ψ'.ct ς' → Ψ.ct ς') : WS c ts ς Ψ := fun σ k hh S E z =>
  h σ k hh S E ⟨fun a b d f s q p => z.nx a b d f s q (q1 _ p), fun a b d f s q p => z.bk a b d f s q (q3 _ p), fun a b d f s q p => z.ct a b d f s q (q4 _ p), fun a b d f g i s q r p => z.rt a b d f g i s q r (q2 _ _ p)⟩
theorem we_op {r : R2} {ta tb : TE} (h : WE c ta ς fun d1 ς1 => WE c tb ς1 fun d2 ς2 => RD c.K r d1 d2 fun d => Φ d ς2) : WE c (tOp r ta tb) ς Φ := fun σ k hh S Q z =>
  h σ k hh S _ fun v1 k1 h1 d1 ς1 S1 e1 r1 q1 => q1 σ k1 h1 S1 _ fun v2 k2 h2 d2 ς2 S2 e2 r2 q2 =>
    q2 k2 h2 v1 v2 S2.kh (r1.mono e2) r2 Q fun v k' h' d g rr q => z v k' h' d ς2 (S2.grow g) ((e1.trans e2).trans g.kk) rr q
theorem we_un {r : V → Hp → VK → Prop} {ta : TE} (h : WE c ta ς fun d1 ς1 => RU c.K r d1 fun d => Φ d ς1) : WE c (tUn r ta) ς Φ := fun σ k hh S Q z =>
  h σ k hh S _ fun v1 k1 h1 d1 ς1 S1 e1 r1 q1 => q1 k1 h1 v1 S1.kh r1 Q fun v k' h' d g rr q => z v k' h' d ς1 (S1.grow g) (e1.trans g.kk) rr q
theorem we_and {ta tb : TE} (h : WE c ta ς fun d1 ς1 => ∃ b, d1 = .bl b ∧ (b = true → WE c tb ς1 Φ) ∧ (b = false → Φ (.bl false) ς1)) : WE c (tAndV ta tb) ς Φ := fun σ k hh S Q z =>
  h σ k hh S _ fun v1 k1 h1 d1 ς1 S1 e1 r1 ⟨b, eb, q1, q2⟩ => by
    subst eb
    cases r1
    refine ⟨b, rfl, ?_⟩
    cases b with
    | true => exact iteT (q1 rfl σ k1 h1 S1 Q fun v k' h' d ς' S' e r q => z v k' h' d ς' S' (e1.trans e) r q)
    | false => exact iteF (z _ k1 h1 _ ς1 S1 e1 (.bl false) (q2 rfl))
theorem we_or {ta tb : TE} (h : WE c ta ς fun d1 ς1 => ∃ b, d1 = .bl b ∧ (b = false → WE c tb ς1 Φ) ∧ (b = true → Φ (.bl true) ς1)) : WE c (tOrV ta tb) ς Φ := fun σ k hh S Q z =>
  h σ k hh S _ fun v1 k1 h1 d1 ς1 S1 e1 r1 ⟨b, eb, q1, q2⟩ => by
    subst eb
    cases r1
    refine ⟨b, rfl, ?_⟩
    cases b with
    | false => exact iteF (q1 rfl σ k1 h1 S1 Q fun v k' h' d ς' S' e r q => z v k' h' d ς' S' (e1.trans e) r q)
    | true => exact iteT (z _ k1 h1 _ ς1 S1 e1 (.bl true) (q2 rfl))
theorem we_not {ta : TE} (h : WE c ta ς fun d1 ς1 => ∃ b, d1 = .bl b ∧ Φ (.bl (!b)) ς1) : WE c (tNotV ta) ς Φ := fun σ k hh S Q z =>
  h σ k hh S _ fun v1 k1 h1 d1 ς1 S1 e1 r1 ⟨b, eb, q1⟩ => by
    subst eb
    cases r1
    exact ⟨b, rfl, z _ k1 h1 _ ς1 S1 e1 (.bl _) q1⟩
theorem we_if {t : TT} {ta tb : TE} (h : WT c t ς fun b ς1 => (b = true → WE c ta ς1 Φ) ∧ (b = false → WE c tb ς1 Φ)) : WE c (tIf t ta tb) ς Φ := fun σ k hh S Q z =>
  h σ k hh S _ fun b k1 h1 ς1 S1 e1 ⟨q1, q2⟩ => by
    cases b with
    | true => exact iteT (q1 rfl σ k1 h1 S1 Q fun v k' h' d ς' S' e r q => z v k' h' d ς' S' (e1.trans e) r q)
    | false => exact iteF (q2 rfl σ k1 h1 S1 Q fun v k' h' d ς' S' e r q => z v k' h' d ς' S' (e1.trans e) r q)
/-! ### lists of arguments, displays -/
theorem wl_nil {Φ : List D → Sta → Prop} (q : Φ [] ς) : WL c tNil ς Φ := fun σ k h S Q z => z [] k h [] ς S (Same.refl _) .nil q
theorem wl_cons {Φ : List D → Sta → Prop} {te : TE} {ta : TA} (h : WE c te ς fun d ς1 => WL c ta ς1 fun ds ς2 => Φ (d :: ds) ς2) : WL c (tCons te ta) ς Φ := fun σ k hh S Q z =>
  h σ k hh S _ fun v k1 h1 d ς1 S1 e1 r1 q1 => q1 σ k1 h1 S1 _ fun vs k2 h2 ds ς2 S2 e2 r2 q2 => z (v :: vs) k2 h2 (d :: ds) ς2 S2 (e1.trans e2) (.cons (r1.mono e2) r2) q2
theorem we_lst {ta : TA} (h : WL c ta ς fun ds ς1 => ds.length ≤ sizeLine ∧ Φ (.lst ds) ς1) : WE c (tLst ta) ς Φ := fun σ k hh S Q z =>
  h σ k hh S _ fun vs k1 h1 ds ς1 S1 e1 r1 ⟨l, q⟩ => ⟨by rw [r1.length]; exact l, fun p n =>
    have g : Grow (fun _ => False) k1 h1 (upd k1 p (.lst vs)) (upd h1 p (.lst vs)) := Grow.new S1.kh n (by nofun)
    z (.ref p) _ _ _ ς1 (S1.grow g) (e1.trans g.kk) (.lst upd_same (r1.mono g.kk)) q⟩
/-- a new list that will be written -/
theorem we_lstM {ta : TA} (h : WL c ta ς fun ds ς1 => ds.length ≤ sizeLine ∧ ∀ p, (∀ x ∈ ς1.m, x.1 ≠ p) → Φ (.ref p) { ς1 with m := (p, .lst ds) :: ς1.m }) : WE c (tLst ta) ς Φ := fun σ k hh S Q z =>
  h σ k hh S _ fun vs k1 h1 ds ς1 S1 e1 r1 ⟨l, q⟩ => ⟨by rw [r1.length]; exact l, fun p n => by
    have g : Grow (fun _ => False) k1 h1 k1 (upd h1 p (.lst vs)) := Grow.newU S1.kh n
    have S2 := S1.grow g
    have np : ∀ x ∈ ς1.m, x.1 ≠ p := fun x hx e => (S1.m x hx).2.2.there (by rw [e]; exact n)
    refine z (.ref p) k1 _ _ _ ?_ e1 (.ref p) (q p np)
    refine ⟨S2.g, S2.i, S2.w, S2.s, fun x hx => ?_, ?_, S2.len, S2.kb⟩
    · rcases List.mem_cons.mp hx with e | hx
      · subst e
        refine ⟨S1.kh.free n, ?_, ⟨vs, upd_same, r1⟩⟩
        cases y : c.h0 p with
        | none => exact .inl rfl
        | some o => exact absurd n (S1.g.hd p (by rw [y]; simp))
      · exact S2.m x hx
    · rw [List.map_cons]
      refine List.nodup_cons.mpr ⟨fun hm => ?_, S1.nd⟩
      obtain ⟨x, hx, e⟩ := List.mem_map.mp hm
      exact np x hx e⟩
theorem we_tup {ta : TA} (h : WL c ta ς fun ds ς1 => ds.length ≤ sizeLine ∧ Φ (.tup ds) ς1) : WE c (tTup ta) ς Φ := fun σ k hh S Q z =>
  h σ k hh S _ fun vs k1 h1 ds ς1 S1 e1 r1 ⟨l, q⟩ => ⟨by rw [r1.length]; exact l, fun p n =>
    have g : Grow (fun _ => False) k1 h1 (upd k1 p (.tup vs)) (upd h1 p (.tup vs)) := Grow.new S1.kh n (by nofun)
    z (.ref p) _ _ _ ς1 (S1.grow g) (e1.trans g.kk) (.tup (.inl (.inl upd_same)) (r1.mono g.kk)) q⟩
theorem we_cb {r : List V → Hp → VK → Prop} {ta : TA} (h : WL c ta ς fun ds ς1 => RC c.K r ds fun d => Φ d ς1) : WE c (tCB r ta) ς Φ := fun σ k hh S Q z =>
  h σ k hh S _ fun vs k1 h1 ds ς1 S1 e1 r1 q1 => q1 k1 h1 vs S1.kh r1 Q fun v k' h' d g rr q => z v k' h' d ς1 (S1.grow g) (e1.trans g.kk) rr q
/-! ### tests -/
theorem wt_B {Φ : Bool → Sta → Prop} {te : TE} (h : WE c te ς fun d ς1 => ∃ b, d = .bl b ∧ Φ b ς1) : WT c (tB te) ς Φ := fun σ k hh S Q z =>
  h σ k hh S _ fun v k1 h1 d ς1 S1 e1 r1 ⟨b, eb, q⟩ => by
    subst eb
    cases r1
    exact ⟨b, rfl, z b k1 h1 ς1 S1 e1 q⟩
theorem wt_test {Φ : Bool → Sta → Prop} {te : TE} (h : WE c te ς fun d ς1 => ∃ b, d = .bl b ∧ Φ b ς1) : WT c (tTest te) ς Φ := fun σ k hh S Q z =>
  h σ k hh S _ fun v k1 h1 d ς1 S1 e1 r1 ⟨b, eb, q⟩ => by
    subst eb
    cases r1
    exact ⟨b, rfl, z b k1 h1 ς1 S1 e1 q⟩
theorem wt_and {Φ : Bool → Sta → Prop} {t u : TT} (h : WT c t ς fun b ς1 => (b = true → WT c u ς1 Φ) ∧ (b = false → Φ false ς1)) : WT c (tAnd t u) ς Φ := fun σ k hh S Q z =>
  h σ k hh S _ fun b k1 h1 ς1 S1 e1 ⟨q1, q2⟩ => by
    cases b with
    | true => exact iteT (q1 rfl σ k1 h1 S1 Q fun b k' h' ς' S' e q => z b k' h' ς' S' (e1.trans e) q)
    | false => exact iteF (z false k1 h1 ς1 S1 e1 (q2 rfl))
theorem wt_or {Φ : Bool → Sta → Prop} {t u : TT} (h : WT c t ς fun b ς1 => (b = false → WT c u ς1 Φ) ∧ (b = true → Φ true ς1)) : WT c (tOr t u) ς Φ := fun σ k hh S Q z =>
  h σ k hh S _ fun b k1 h1 ς1 S1 e1 ⟨q1, q2⟩ => by
    cases b with
    | false => exact iteF (q1 rfl σ k1 h1 S1 Q fun b k' h' ς' S' e q => z b k' h' ς' S' (e1.trans e) q)
    | true => exact iteT (z true k1 h1 ς1 S1 e1 (q2 rfl))
theorem wt_not {Φ : Bool → Sta → Prop} {t : TT} (h : WT c t ς fun b ς1 => Φ (!b) ς1) : WT c (tNot t) ς Φ := fun σ k hh S Q z =>
  h σ k hh S _ fun b k1 h1 ς1 S1 e1 q => z (!b) k1 h1 ς1 S1 e1 q
theorem wt_yes {Φ : Bool → Sta → Prop} (q : Φ true ς) : WT c tYes ς Φ := fun σ k hh S Q z => z true k hh ς S (Same.refl _) q
/-! ### statements -/
theorem ws_seq {t u : TS} (h : WS c t ς { Ψ with nx := fun ς1 => WS c u ς1 Ψ }) : WS c (tSeq t u) ς Ψ := fun σ k hh S E z =>
  h σ k hh S { E with nx := u E } ⟨fun a b d f s q p => p a b d s E (z.later q), z.bk, z.ct, z.rt⟩
theorem ws_next (q : Ψ.nx ς) : WS c tNext ς Ψ := fun σ k hh S E z => z.nx σ k hh ς S (Same.refl _) q
theorem ws_break (q : Ψ.bk ς) : WS c tBreak ς Ψ := fun σ k hh S E z => z.bk σ k hh ς S (Same.refl _) q
theorem ws_cont (q : Ψ.ct ς) : WS c tCont ς Ψ := fun σ k hh S E z => z.ct σ k hh ς S (Same.refl _) q
theorem ws_ret {te : TE} (h : WE c te ς fun d ς1 => Ψ.rt d ς1) : WS c (tRet te) ς Ψ := fun σ k hh S E z =>
  h σ k hh S _ fun v k1 h1 d ς1 S1 e1 r1 q => z.rt v σ k1 h1 d ς1 S1 e1 r1 q
theorem ws_retN (q : Ψ.rt .non ς) : WS c tRetN ς Ψ := fun σ k hh S E z => z.rt .non σ k hh .non ς S (Same.refl _) .non q
theorem ws_if {t : TT} {a b : TS} (h : WT c t ς fun x ς1 => (x = true → WS c a ς1 Ψ) ∧ (x = false → WS c b ς1 Ψ)) : WS c (tIfS t a b) ς Ψ := fun σ k hh S E z =>
  h σ k hh S _ fun x k1 h1 ς1 S1 e1 ⟨q1, q2⟩ => by
    cases x with
    | true => exact iteT (q1 rfl σ k1 h1 S1 E (z.later e1))
    | false => exact iteF (q2 rfl σ k1 h1 S1 E (z.later e1))
theorem ws_drop {te : TE} (h : WE c te ς fun _ ς1 => Ψ.nx ς1) : WS c (tDrop te) ς Ψ := fun σ k hh S E z =>
  h σ k hh S _ fun v k1 h1 d ς1 S1 e1 r1 q => z.nx σ k1 h1 ς1 S1 e1 q
theorem SR.set {σ : L2.St} {k h : Hp} {i : Nat} {v : V} {d : D} (S : SR c ς σ k h) (r : Rep c.K k v d) (hi : i < ς.δ.length) : SR c { ς with δ := ς.δ.set i (some d) } (σ.set i (some v)) k h := by
  refine ⟨S.g, S.i, S.w, fun j e q => ?_, S.m, S.nd, by rw [List.length_set, List.length_set]; exact S.len, S.kb⟩
  by_cases hj : j = i
  · subst hj
    have q' : (ς.δ.set j (some d))[j]? = some (some e) := q
    rw [List.getElem?_set_self hi] at q'
    cases q'
    exact ⟨v, by rw [List.getElem?_set_self (by rw [← S.len]; exact hi)], r⟩
  · have q' : (ς.δ.set i (some d))[j]? = some (some e) := q
    rw [List.getElem?_set_ne (fun z => hj z.symm)] at q'
    obtain ⟨w, e1, e2⟩ := S.s j e q'
    exact ⟨w, by rw [List.getElem?_set_ne (fun z => hj z.symm)]; exact e1, e2⟩
theorem wg_name {i : Nat} {d : D} {Φ : Sta → Prop} (hi : i < ς.δ.length) (q : Φ { ς with δ := ς.δ.set i (some d) }) : WG c (gName i) d ς Φ := fun σ k h v S r Q z =>
  z _ k h _ (S.set r hi) (Same.refl _) q
theorem wgs_nil {Φ : Sta → Prop} (q : Φ ς) : WGs c gNil [] ς Φ := fun σ k h vs S r Q z => by
  cases r
  exact ⟨rfl, z σ k h ς S (Same.refl _) q⟩
theorem wgs_cons {g : TG} {gs : TGs} {d : D} {ds : List D} {Φ : Sta → Prop} (h : WG c g d ς fun ς1 => WGs c gs ds ς1 Φ) : WGs c (gCons g gs) (d :: ds) ς Φ := fun σ k hh vs S r Q z => by
  cases r with
  | cons r1 r2 =>
    exact ⟨_, _, rfl, h σ k hh _ S r1 _ fun σ1 k1 h1 ς1 S1 e1 q1 => q1 σ1 k1 h1 _ S1 (r2.mono e1) Q fun σ2 k2 h2 ς2 S2 e2 q => z σ2 k2 h2 ς2 S2 (e1.trans e2) q⟩
theorem wg_tup {n : Nat} {gs : TGs} {ds : List D} {Φ : Sta → Prop} (hn : ds.length = n) (h : WGs c gs ds ς Φ) : WG c (gTup c.K n gs) (.tup ds) ς Φ := fun σ k hh v S r Q z => by
  cases r with
  | tup e r => exact ⟨_, _, rfl, Same.sqt S.kh e, by rw [r.length]; exact hn, h σ k hh _ S r Q z⟩
theorem ws_asg {te : TE} {g : TG} (h : WE c te ς fun d ς1 => WG c g d ς1 Ψ.nx) : WS c (tAsg te g) ς Ψ := fun σ k hh S E z =>
  h σ k hh S _ fun v k1 h1 d ς1 S1 e1 r1 q => q σ k1 h1 v S1 r1 _ fun σ2 k2 h2 ς2 S2 e2 q2 => z.nx σ2 k2 h2 ς2 S2 (e1.trans e2) q2
theorem ws_par {i j : Nat} {ta : TA} (h : WL c ta ς fun ds ς1 => ∃ d e, ds = [d, e] ∧ i < ς1.δ.length ∧ j < ς1.δ.length ∧ Ψ.nx { ς1 with δ := (ς1.δ.set i (some d)).set j (some e) }) : WS c (tPar i j ta) ς Ψ := fun σ k hh S E z =>
  h σ k hh S _ fun vs k1 h1 ds ς1 S1 e1 r1 ⟨d, e, ed, hi, hj, q⟩ => by
    subst ed
    cases r1 with
    | cons ra r1 => cases r1 with
      | cons rb r1 =>
        cases r1
        exact ⟨_, _, rfl, z.nx _ k1 h1 _ ((S1.set ra hi).set (i := j) rb (by show j < (ς1.δ.set i _).length; rw [List.length_set]; exact hj)) e1 q⟩
theorem ws_never {Ψ : Psi} (h : False) : WS c tNever ς Ψ := h.elim
end
end DL

set_option Elab.async false
set_option linter.all false
set_option maxRecDepth 100000
set_option maxHeartbeats 2000000
namespace DL
open PySem PySem.Spec PyProof.Rows L2

theorem WalkD.walk {c : Cn} {J : It} {k : Hp} {ds : List D} (w : WalkD c J k ds) : Walk J ds.length (fun h => StK c k h) (fun i h x h' => J.yld i h x h') :=
  ⟨fun i h hi e => w.goes i h hi e, fun h e => w.stops h e, fun _ _ _ _ _ _ y => y⟩

def wipeD (δ : List (Option D)) : List Nat → List (Option D)
  | [] => δ
  | v :: vs => (wipeD δ vs).set v none
theorem wipeD_length (δ : List (Option D)) : ∀ vs : List Nat, (wipeD δ vs).length = δ.length
  | [] => rfl
  | v :: vs => by unfold wipeD; rw [List.length_set, wipeD_length δ vs]
theorem wipeD_some {δ : List (Option D)} {i : Nat} {x : D} : ∀ {vs : List Nat}, (wipeD δ vs)[i]? = some (some x) → δ[i]? = some (some x) ∧ i ∉ vs
  | [], h => ⟨h, by simp⟩
  | v :: vs, h => by
    unfold wipeD at h
    by_cases hi : v = i
    · subst hi
      by_cases hv : v < (wipeD δ vs).length
      · rw [List.getElem?_set_self hv] at h; cases h
      · rw [List.getElem?_eq_none (by simpa using hv)] at h; cases h
    · rw [List.getElem?_set_ne hi] at h
      obtain ⟨h1, h2⟩ := wipeD_some h
      exact ⟨h1, by simp only [List.mem_cons, not_or]; exact ⟨fun e => hi e.symm, h2⟩⟩
theorem wipe_out {σ : L2.St} {i : Nat} : ∀ {vs : List Nat}, i ∉ vs → (wipe σ vs)[i]? = σ[i]?
  | [], _ => rfl
  | v :: vs, h => by
    unfold wipe
    simp only [List.mem_cons, not_or] at h
    rw [List.getElem?_set_ne (fun z => h.1 z.symm)]
    exact wipe_out h.2
theorem wipe_set {σ : L2.St} {i : Nat} {v : Option V} : ∀ {vs : List Nat}, i ∈ vs → wipe (σ.set i v) vs = wipe σ vs
  | [], h => by simp at h
  | w :: vs, h => by
    unfold wipe
    by_cases e : i ∈ vs
    · rw [wipe_set e]
    · have ew : i = w := by
        rcases List.mem_cons.mp h with e' | e'
        · exact e'
        · exact absurd e' e
      subst ew
      have key : ∀ us : List Nat, wipe (σ.set i v) us = (wipe σ us).set i v ∨ wipe (σ.set i v) us = wipe σ us := by
        intro us
        induction us with
        | nil => exact .inl rfl
        | cons u us ih =>
          unfold wipe
          rcases ih with ih | ih
          · rw [ih]
            by_cases eu : u = i
            · subst eu
              rw [List.set_set]
              exact .inr rfl
            · rw [List.set_comm _ _ (fun z => eu z.symm)]
              exact .inl rfl
          · rw [ih]
            exact .inr rfl
      rcases key vs with q | q
      · rw [q, List.set_set]
      · rw [q]
theorem wipe_idem {σ : L2.St} {vs : List Nat} : wipe (wipe σ vs) vs = wipe σ vs := by
  refine List.ext_getElem? fun i => ?_
  by_cases h : i ∈ vs
  · have key : ∀ (τ : L2.St) (us : List Nat), i ∈ us → ∀ x, (wipe τ us)[i]? ≠ some (some x) := fun τ us hm x z => (wipe_some z).2 hm
    have l1 : (wipe (wipe σ vs) vs).length = (wipe σ vs).length := wipe_length _ _
    cases a : (wipe (wipe σ vs) vs)[i]? with
    | none =>
      cases b : (wipe σ vs)[i]? with
      | none => rfl
      | some y =>
        have := List.getElem?_eq_none_iff.mp a
        have := (List.getElem?_eq_some_iff.mp b).1
        omega
    | some x =>
      cases b : (wipe σ vs)[i]? with
      | none =>
        have := List.getElem?_eq_none_iff.mp b
        have := (List.getElem?_eq_some_iff.mp a).1
        omega
      | some y =>
        cases x with
        | some x => exact absurd a (key _ _ h x)
        | none => cases y with
          | some y => exact absurd b (key _ _ h y)
          | none => rfl
  · rw [wipe_out h]
section
variable {c : Cn} {ς : Sta} {Φ : D → Sta → Prop} {Ψ : Psi}
theorem SR.wipe {σ : L2.St} {k h : Hp} (vs : List Nat) (S : SR c ς σ k h) : SR c { ς with δ := wipeD ς.δ vs } (wipe σ vs) k h := by
  refine ⟨S.g, S.i, S.w, fun j e q => ?_, S.m, S.nd, by rw [wipeD_length, wipe_length]; exact S.len, S.kb⟩
  obtain ⟨q1, q2⟩ := wipeD_some q
  obtain ⟨v, e1, e2⟩ := S.s j e q1
  exact ⟨v, by rw [wipe_out q2]; exact e1, e2⟩
/-- a target writes no slot but those that are wiped -/
def KG (g : TG) (vs : List Nat) : Prop := ∀ v σ h Q, g v σ h Q → g v σ h fun σ2 h2 => L2.wipe σ2 vs = L2.wipe σ vs ∧ Q σ2 h2
def KGs (g : TGs) (vs : List Nat) : Prop := ∀ v σ h Q, g v σ h Q → g v σ h fun σ2 h2 => L2.wipe σ2 vs = L2.wipe σ vs ∧ Q σ2 h2
theorem kg_name {i : Nat} {vs : List Nat} (hi : i ∈ vs) : KG (gName i) vs := fun v σ h Q q => ⟨wipe_set hi, q⟩
theorem kgs_nil {vs : List Nat} : KGs gNil vs := fun v σ h Q q => ⟨q.1, rfl, q.2⟩
theorem gName_mono : ∀ {i : Nat} {v : V} {σ : L2.St} {h : Hp} {Q Q' : L2.St → Hp → Prop}, (∀ a b, Q a b → Q' a b) → gName i v σ h Q → gName i v σ h Q' := fun q p => q _ _ p
theorem kgs_cons {i : Nat} {gs : TGs} {vs : List Nat} (hi : i ∈ vs) (h : KGs gs vs) : KGs (gCons (gName i) gs) vs := fun v σ hh Q q => by
  obtain ⟨x, r, e, q⟩ := q
  refine ⟨x, r, e, ?_⟩
  have q1 : gs r (σ.set i (some x)) hh Q := q
  have q2 := h _ _ _ _ q1
  show gs r (σ.set i (some x)) hh _
  rw [wipe_set hi] at q2
  exact q2
theorem kg_tup {K : PySem.W.Frag} {n : Nat} {gs : TGs} {vs : List Nat} (h : KGs gs vs) : KG (gTup K n gs) vs := fun v σ hh Q q => by
  obtain ⟨a, xs, e1, e2, e3, q⟩ := q
  exact ⟨a, xs, e1, e2, e3, h _ _ _ _ q⟩
/-! ### loops -/
theorem ws_for {wi : TI} {g : TG} {tb : TS} (h : WI c wi ς fun ds ς1 => ∃ Jv : Nat → Sta → Prop, Jv 0 ς1 ∧
    (∀ i d ς2, ds[i]? = some d → Jv i ς2 → WG c g d ς2 fun ς3 => WS c tb ς3 { nx := Jv (i + 1), ct := Jv (i + 1), bk := Ψ.nx, rt := Ψ.rt }) ∧ ∀ ς2, Jv ds.length ς2 → Ψ.nx ς2) : WS c (tFor wi g tb) ς Ψ := fun σ k hh S E z =>
  h σ k hh S _ fun J k1 h1 ds ς1 S1 e1 w ⟨Jv, j0, js, jd⟩ => for_it w.walk (fun i σ h => ∃ k ς, SR c ς σ k h ∧ Same k1 k ∧ Jv i ς) ⟨k1, ς1, S1, Same.refl _, j0⟩
    (fun i σ H _ ⟨k, ς, S, e, _⟩ => ⟨e.trans S.kh, ς, σ, k, S, e⟩)
    (fun i x σ H H' hi ⟨k, ς2, S2, e2, j2⟩ y => by
      obtain ⟨k', g', r'⟩ := w.yields i H x H' ds[i] (by simp [hi]) y k e2 ⟨S2.kh, _, _, k, S2, Same.refl _⟩
      refine js i ds[i] ς2 (by simp [hi]) j2 σ k' H' x (S2.grow g') r' _ fun σ3 k3 h3 ς3 S3 e3 q3 => q3 σ3 k3 h3 S3 _ ?_
      have ek : Same k k3 := g'.kk.trans e3
      exact ⟨fun a b d f s q p => ⟨b, f, s, (e2.trans ek).trans q, p⟩, fun a b d f s q p => z.nx a b d f s (((e1.trans e2).trans ek).trans q) p, fun a b d f s q p => ⟨b, f, s, (e2.trans ek).trans q, p⟩,
        fun a b d f g i s q r p => z.rt a b d f g i s (((e1.trans e2).trans ek).trans q) r p⟩)
    fun σ H ⟨k, ς, S, e, j⟩ => z.nx σ k H ς S (e1.trans e) (jd ς j)
theorem ws_while {t : TT} {tb : TS} (Jv : Nat → Sta → Prop) (m0 : Nat) (j0 : Jv m0 ς)
    (js : ∀ m ς1, Jv m ς1 → WT c t ς1 fun b ς2 => (b = true → WS c tb ς2 { nx := fun ς3 => ∃ m', m' < m ∧ Jv m' ς3, ct := fun ς3 => ∃ m', m' < m ∧ Jv m' ς3, bk := Ψ.nx, rt := Ψ.rt }) ∧ (b = false → Ψ.nx ς2)) : WS c (tWhile t tb) ς Ψ := fun σ k hh S E z => by
  refine ⟨fun m σ h => ∃ k' ς, SR c ς σ k' h ∧ Same k k' ∧ Jv m ς, ⟨m0, k, ς, S, Same.refl _, j0⟩, ?_⟩
  rintro m σ1 h1 ⟨k1, ς1, S1, e1, j1⟩
  refine js m ς1 j1 σ1 k1 h1 S1 _ fun b k2 h2 ς2 S2 e2 ⟨q1, q2⟩ => ?_
  cases b with
  | false => exact iteF (z.nx σ1 k2 h2 ς2 S2 (e1.trans e2) (q2 rfl))
  | true =>
    refine iteT ⟨fun σ h => ∃ k' ς m', SR c ς σ k' h ∧ Same k k' ∧ m' < m ∧ Jv m' ς, fun σ' h' ⟨k', ς', m', a, b, d, e⟩ => ⟨m', d, k', ς', a, b, e⟩, q1 rfl σ1 k2 h2 S2 _ ?_⟩
    have ek : Same k k2 := e1.trans e2
    exact ⟨fun a b d f s q ⟨m', p1, p2⟩ => ⟨b, f, m', s, ek.trans q, p1, p2⟩, fun a b d f s q p => z.nx a b d f s (ek.trans q) p, fun a b d f s q ⟨m', p1, p2⟩ => ⟨b, f, m', s, ek.trans q, p1, p2⟩,
      fun a b d f g i s q r p => z.rt a b d f g i s (ek.trans q) r p⟩
/-- a list comprehension; the new list is known behind it -/
theorem we_lc {wi : TI} {g : TG} {tt : TT} {te : TE} {vs : List Nat} (kg : KG g vs) (h : WI c wi ς fun ds ς1 => ∃ Jv : Nat → List D → Nat → Prop, Jv 0 [] ς1.b ∧
    (∀ i d acc b D, ds[i]? = some d → Jv i acc b → WG c g d { δ := wipeD ς1.δ vs, m := (D, .lst acc) :: ς1.m, b := b } fun ς2 => WT c tt ς2 fun x ς3 =>
      (x = true → WE c te ς3 fun e ς4 => acc.length < sizeLine ∧ ς4.m = (D, .lst acc) :: ς1.m ∧ Jv (i + 1) (acc ++ [e]) ς4.b) ∧ (x = false → ς3.m = (D, .lst acc) :: ς1.m ∧ Jv (i + 1) acc ς3.b)) ∧
    ∀ acc b, Jv ds.length acc b → Φ (.lst acc) { ς1 with b := b }) : WE c (tLc wi g tt te vs) ς Φ := fun σ k hh S Q z =>
  h σ k hh S _ fun J k1 h1 ds ς1 S1 e1 w ⟨Jv, j0, js, jd⟩ L nL => by
    have lower : ∀ {m : List (Addr × MO)} {δ : List (Option D)} {τ : L2.St} {b : Nat} {k2 h2 : Hp}, SR c ⟨δ, m, b⟩ τ k2 h2 → Same k1 k2 → SR c { ς1 with m := m, b := b } σ k2 h2 := fun {m δ τ b k2 h2} S2 e =>
      ⟨S2.g, S2.i, S2.w, fun i d q => by
        obtain ⟨v, a, r⟩ := S1.s i d q
        exact ⟨v, a, r.mono e⟩, S2.m, S2.nd, S1.len, S2.kb⟩
    have nk : k1 L = none := S1.kh.free nL
    have nm : ∀ x ∈ ς1.m, x.1 ≠ L := fun x hx e => (S1.m x hx).2.2.there (by rw [e]; exact nL)
    have n0 : c.h0 L = none := by
      cases y : c.h0 L with
      | none => rfl
      | some o => exact absurd nL (S1.g.hd L (by rw [y]; simp))
    refine lc_it w.walk (fun i h => ∃ k acc b, SR c { ς1 with m := (L, .lst acc) :: ς1.m, b := b } σ k h ∧ Same k1 k ∧ Jv i acc b) ⟨k1, [], ς1.b, ?_, Same.refl _, j0⟩ (fun i H _ ⟨k, acc, b, S, e, _⟩ => ⟨e.trans S.kh, _, _, k, S, e⟩) ?_ ?_
    · have g : Grow (fun _ => False) k1 h1 k1 (upd h1 L (.lst [])) := Grow.newU S1.kh nL
      have S2 := S1.grow g
      refine ⟨S2.g, S2.i, S2.w, S2.s, fun x hx => ?_, ?_, S2.len, S2.kb⟩
      · rcases List.mem_cons.mp hx with e | hx
        · subst e
          exact ⟨nk, .inl n0, [], upd_same, .nil⟩
        · exact S2.m x hx
      · rw [List.map_cons]
        refine List.nodup_cons.mpr ⟨fun hm => ?_, S1.nd⟩
        obtain ⟨x, hx, e⟩ := List.mem_map.mp hm
        exact nm x hx e
    · rintro i x H H' hi ⟨k, acc, b, S2, e2, j2⟩ y
      obtain ⟨k', g', r'⟩ := w.yields i H x H' ds[i] (by simp [hi]) y k e2 ⟨S2.kh, _, _, k, S2, Same.refl _⟩
      have S3 := (S2.grow g').wipe vs
      have q := js i ds[i] acc b L (by simp [hi]) j2 (L2.wipe σ vs) k' H' x S3 r' _ (fun σ4 k4 h4 ς4 S4 e4 q4 => q4 σ4 k4 h4 S4 (fun b H3 => if b = true then te σ4 H3 fun y H4 => ∃ ac, H4 L = some (.lst ac) ∧ ac.length < sizeLine ∧ (∃ k acc b, SR c { ς1 with m := (L, .lst acc) :: ς1.m, b := b } σ k (upd H4 L (.lst (ac ++ [y])))  ∧ Same k1 k ∧ Jv (i + 1) acc b) else ∃ k acc b, SR c { ς1 with m := (L, .lst acc) :: ς1.m, b := b } σ k H3 ∧ Same k1 k ∧ Jv (i + 1) acc b) ?_)
      · have q' := kg _ _ _ _ q
        have wi : L2.wipe (L2.wipe σ vs) vs = L2.wipe σ vs := wipe_idem
        rw [wi] at q'
        exact q'
      · intro bb k5 h5 ς5 S5 e5 ⟨qt, qf⟩
        have e15 : Same k1 k5 := (e2.trans g'.kk).trans (e4.trans e5)
        cases bb with
        | false =>
          obtain ⟨em, j⟩ := qf rfl
          obtain ⟨δ5, m5, b5⟩ := ς5
          have em : m5 = _ := em
          subst em
          exact iteF ⟨k5, acc, b5, lower S5 e15, e15, j⟩
        | true =>
          refine iteT (qt rfl σ4 k5 h5 S5 _ fun y k6 h6 d ς6 S6 e6 r6 ⟨l, em, j⟩ => ?_)
          obtain ⟨δ6, m6, b6⟩ := ς6
          have em : m6 = _ := em
          subst em
          have S7 := lower S6 (e15.trans e6)
          obtain ⟨n1, n2, vs', hv, rv⟩ := S7.m (L, .lst acc) List.mem_cons_self
          have n1 : k6 L = none := n1
          have hv : h6 L = some (.lst vs') := hv
          have rv : RepL c.K k6 vs' acc := rv
          have nW : ∀ a o, c.R.W a ∨ IsExt o → h6 a = some o → a ≠ L := fun a o wa q e => by
            rcases wa with wa | wa
            · exact (S7.w a wa).2 (by rw [e]; exact n0)
            · rw [e, hv] at q
              cases q
              exact wa
          refine ⟨vs', hv, by rw [rv.length]; exact l, k6, acc ++ [d], b6, ?_, e15.trans e6, j⟩
          have sk : Same k6 (upd h6 L (.lst (vs' ++ [y]))) := fun a o q => by
            have ne : a ≠ L := fun e => by rw [e, n1] at q; cases q
            rw [upd_ne ne]
            exact S7.kh _ _ q
          refine ⟨⟨S7.g.kk, sk, fun a o na q => ?_, fun a q => ?_, S7.g.dj, S7.g.kt⟩, c.R.st _ _ _ (fun a o wa q => by rw [upd_ne (nW a o wa q)]; exact q) S7.i, S7.w, S7.s, fun x hx => ?_, S7.nd, S7.len, S7.kb⟩
          · have ne : a ≠ L := fun e => by rw [e, n0] at q; cases q
            rw [upd_ne ne]
            exact S7.g.hh a o na q
          · by_cases e : a = L
            · rw [e, upd_same]; simp
            · rw [upd_ne e]; exact S7.g.hd a q
          · rcases List.mem_cons.mp hx with e | hx'
            · subst e
              exact ⟨n1, n2, vs' ++ [y], upd_same, rv.append (.cons r6 .nil)⟩
            · obtain ⟨a1, a2, a3⟩ := S7.m x (List.mem_cons_of_mem _ hx')
              have ne : x.1 ≠ L := nm x hx'
              refine ⟨a1, a2, ?_⟩
              obtain ⟨xo, xm⟩ := x
              cases xm with
              | lst ds =>
                obtain ⟨us, q, r⟩ := a3
                exact ⟨us, by rw [upd_ne ne]; exact q, r⟩
              | ins C dx ns ds =>
                obtain ⟨fs, q, n, r⟩ := a3
                exact ⟨fs, by rw [upd_ne ne]; exact q, n, r⟩
              | dct ks ds =>
                obtain ⟨kvs, q, n, r⟩ := a3
                exact ⟨kvs, by rw [upd_ne ne]; exact q, n, r⟩
    · rintro H ⟨k, acc, b, S2, e2, j2⟩
      obtain ⟨n1, n2, vs', hv, rv⟩ := S2.m (L, .lst acc) List.mem_cons_self
      have n1 : k L = none := n1
      have hv : H L = some (.lst vs') := hv
      have rv : RepL c.K k vs' acc := rv
      -- the list is known from now on
      have kk : Same k (upd k L (.lst vs')) := same_new n1
      have kh : Same (upd k L (.lst vs')) H := fun a o q => by
        by_cases e : a = L
        · rw [e, upd_same] at q
          rw [e, hv]
          exact q
        · rw [upd_ne e] at q
          exact S2.kh _ _ q
      refine z (.ref L) (upd k L (.lst vs')) H (.lst acc) { ς1 with b := b } ?_ ((e1.trans e2).trans kk) (.lst upd_same (rv.mono kk)) (jd acc b j2)
      refine ⟨⟨S2.g.kk.trans kk, kh, S2.g.hh, S2.g.hd, fun a q n => ?_, fun a ps q => ?_⟩, S2.i, S2.w, fun i d q => ?_, fun x hx => ?_, (List.nodup_cons.mp (by have := S2.nd; rwa [List.map_cons] at this)).2, S2.len, S2.kb.trans kk⟩
      · have ne : a ≠ L := fun e => n (by rw [e]; exact n0)
        rw [upd_ne ne]
        exact S2.g.dj a q n
      · by_cases e : a = L
        · rw [e, upd_same] at q; cases q
        · rw [upd_ne e] at q; exact S2.g.kt a ps q
      · obtain ⟨v, a, r⟩ := S2.s i d q
        exact ⟨v, a, r.mono kk⟩
      · obtain ⟨a1, a2, a3⟩ := S2.m x (List.mem_cons_of_mem _ hx)
        exact ⟨by rw [upd_ne (nm x hx)]; exact a1, a2, a3.step kk fun _ _ q => q⟩
/-- a list comprehension; the new list may be written -/
theorem we_lcN {wi : TI} {g : TG} {tt : TT} {te : TE} {vs : List Nat} (kg : KG g vs) (h : WI c wi ς fun ds ς1 => ∃ Jv : Nat → List D → Nat → Prop, Jv 0 [] ς1.b ∧
    (∀ i d acc b D, ds[i]? = some d → Jv i acc b → WG c g d { δ := wipeD ς1.δ vs, m := (D, .lst acc) :: ς1.m, b := b } fun ς2 => WT c tt ς2 fun x ς3 =>
      (x = true → WE c te ς3 fun e ς4 => acc.length < sizeLine ∧ ς4.m = (D, .lst acc) :: ς1.m ∧ Jv (i + 1) (acc ++ [e]) ς4.b) ∧ (x = false → ς3.m = (D, .lst acc) :: ς1.m ∧ Jv (i + 1) acc ς3.b)) ∧
    ∀ acc b, Jv ds.length acc b → ∀ L, (∀ x ∈ ς1.m, x.1 ≠ L) → Φ (.ref L) { ς1 with m := (L, .lst acc) :: ς1.m, b := b }) : WE c (tLc wi g tt te vs) ς Φ := fun σ k hh S Q z =>
  h σ k hh S _ fun J k1 h1 ds ς1 S1 e1 w ⟨Jv, j0, js, jd⟩ L nL => by
    have lower : ∀ {m : List (Addr × MO)} {δ : List (Option D)} {τ : L2.St} {b : Nat} {k2 h2 : Hp}, SR c ⟨δ, m, b⟩ τ k2 h2 → Same k1 k2 → SR c { ς1 with m := m, b := b } σ k2 h2 := fun {m δ τ b k2 h2} S2 e =>
      ⟨S2.g, S2.i, S2.w, fun i d q => by
        obtain ⟨v, a, r⟩ := S1.s i d q
        exact ⟨v, a, r.mono e⟩, S2.m, S2.nd, S1.len, S2.kb⟩
    have nk : k1 L = none := S1.kh.free nL
    have nm : ∀ x ∈ ς1.m, x.1 ≠ L := fun x hx e => (S1.m x hx).2.2.there (by rw [e]; exact nL)
    have n0 : c.h0 L = none := by
      cases y : c.h0 L with
      | none => rfl
      | some o => exact absurd nL (S1.g.hd L (by rw [y]; simp))
    refine lc_it w.walk (fun i h => ∃ k acc b, SR c { ς1 with m := (L, .lst acc) :: ς1.m, b := b } σ k h ∧ Same k1 k ∧ Jv i acc b) ⟨k1, [], ς1.b, ?_, Same.refl _, j0⟩ (fun i H _ ⟨k, acc, b, S, e, _⟩ => ⟨e.trans S.kh, _, _, k, S, e⟩) ?_ ?_
    · have g : Grow (fun _ => False) k1 h1 k1 (upd h1 L (.lst [])) := Grow.newU S1.kh nL
      have S2 := S1.grow g
      refine ⟨S2.g, S2.i, S2.w, S2.s, fun x hx => ?_, ?_, S2.len, S2.kb⟩
      · rcases List.mem_cons.mp hx with e | hx
        · subst e
          exact ⟨nk, .inl n0, [], upd_same, .nil⟩
        · exact S2.m x hx
      · rw [List.map_cons]
        refine List.nodup_cons.mpr ⟨fun hm => ?_, S1.nd⟩
        obtain ⟨x, hx, e⟩ := List.mem_map.mp hm
        exact nm x hx e
    · rintro i x H H' hi ⟨k, acc, b, S2, e2, j2⟩ y
      obtain ⟨k', g', r'⟩ := w.yields i H x H' ds[i] (by simp [hi]) y k e2 ⟨S2.kh, _, _, k, S2, Same.refl _⟩
      have S3 := (S2.grow g').wipe vs
      have q := js i ds[i] acc b L (by simp [hi]) j2 (L2.wipe σ vs) k' H' x S3 r' _ (fun σ4 k4 h4 ς4 S4 e4 q4 => q4 σ4 k4 h4 S4 (fun b H3 => if b = true then te σ4 H3 fun y H4 => ∃ ac, H4 L = some (.lst ac) ∧ ac.length < sizeLine ∧ (∃ k acc b, SR c { ς1 with m := (L, .lst acc) :: ς1.m, b := b } σ k (upd H4 L (.lst (ac ++ [y])))  ∧ Same k1 k ∧ Jv (i + 1) acc b) else ∃ k acc b, SR c { ς1 with m := (L, .lst acc) :: ς1.m, b := b } σ k H3 ∧ Same k1 k ∧ Jv (i + 1) acc b) ?_)
      · have q' := kg _ _ _ _ q
        have wi : L2.wipe (L2.wipe σ vs) vs = L2.wipe σ vs := wipe_idem
        rw [wi] at q'
        exact q'
      · intro bb k5 h5 ς5 S5 e5 ⟨qt, qf⟩
        have e15 : Same k1 k5 := (e2.trans g'.kk).trans (e4.trans e5)
        cases bb with
        | false =>
          obtain ⟨em, j⟩ := qf rfl
          obtain ⟨δ5, m5, b5⟩ := ς5
          have em : m5 = _ := em
          subst em
          exact iteF ⟨k5, acc, b5, lower S5 e15, e15, j⟩
        | true =>
          refine iteT (qt rfl σ4 k5 h5 S5 _ fun y k6 h6 d ς6 S6 e6 r6 ⟨l, em, j⟩ => ?_)
          obtain ⟨δ6, m6, b6⟩ := ς6
          have em : m6 = _ := em
          subst em
          have S7 := lower S6 (e15.trans e6)
          obtain ⟨n1, n2, vs', hv, rv⟩ := S7.m (L, .lst acc) List.mem_cons_self
          have n1 : k6 L = none := n1
          have hv : h6 L = some (.lst vs') := hv
          have rv : RepL c.K k6 vs' acc := rv
          have nW : ∀ a o, c.R.W a ∨ IsExt o → h6 a = some o → a ≠ L := fun a o wa q e => by
            rcases wa with wa | wa
            · exact (S7.w a wa).2 (by rw [e]; exact n0)
            · rw [e, hv] at q
              cases q
              exact wa
          refine ⟨vs', hv, by rw [rv.length]; exact l, k6, acc ++ [d], b6, ?_, e15.trans e6, j⟩
          have sk : Same k6 (upd h6 L (.lst (vs' ++ [y]))) := fun a o q => by
            have ne : a ≠ L := fun e => by rw [e, n1] at q; cases q
            rw [upd_ne ne]
            exact S7.kh _ _ q
          refine ⟨⟨S7.g.kk, sk, fun a o na q => ?_, fun a q => ?_, S7.g.dj, S7.g.kt⟩, c.R.st _ _ _ (fun a o wa q => by rw [upd_ne (nW a o wa q)]; exact q) S7.i, S7.w, S7.s, fun x hx => ?_, S7.nd, S7.len, S7.kb⟩
          · have ne : a ≠ L := fun e => by rw [e, n0] at q; cases q
            rw [upd_ne ne]
            exact S7.g.hh a o na q
          · by_cases e : a = L
            · rw [e, upd_same]; simp
            · rw [upd_ne e]; exact S7.g.hd a q
          · rcases List.mem_cons.mp hx with e | hx'
            · subst e
              exact ⟨n1, n2, vs' ++ [y], upd_same, rv.append (.cons r6 .nil)⟩
            · obtain ⟨a1, a2, a3⟩ := S7.m x (List.mem_cons_of_mem _ hx')
              have ne : x.1 ≠ L := nm x hx'
              refine ⟨a1, a2, ?_⟩
              obtain ⟨xo, xm⟩ := x
              cases xm with
              | lst ds =>
                obtain ⟨us, q, r⟩ := a3
                exact ⟨us, by rw [upd_ne ne]; exact q, r⟩
              | ins C dx ns ds =>
                obtain ⟨fs, q, n, r⟩ := a3
                exact ⟨fs, by rw [upd_ne ne]; exact q, n, r⟩
              | dct ks ds =>
                obtain ⟨kvs, q, n, r⟩ := a3
                exact ⟨kvs, by rw [upd_ne ne]; exact q, n, r⟩
    · rintro H ⟨k, acc, b, S2, e2, j2⟩
      exact z (.ref L) k H (.ref L) { ς1 with m := (L, .lst acc) :: ς1.m, b := b } S2 (e1.trans e2) (.ref L) (jd acc b j2 L nm)
end
end DL

set_option Elab.async false
set_option linter.all false
set_option maxRecDepth 100000
set_option maxHeartbeats 2000000
namespace DL
open PySem PySem.Spec PyProof.Rows L2

/-! ### data as the library's -/
mutual
def D.toPy : D → PyData
  | .non => .none
  | .bl b => .bool b
  | .int i => .int i
  | .str x => .str x
  | .lst l => .list (toPyL l)
  | .tup l => .tuple (toPyL l)
  | .dct _ _ => .dict []
  | .obj _ _ _ => .dict []
  | .ty _ => .dict []
  | .ref _ => .dict []
  | .exc _ _ _ _ _ => .dict []
def toPyL : List D → List PyData
  | [] => []
  | d :: ds => d.toPy :: toPyL ds
end
mutual
theorem Rep.dp {K : PySem.W.Frag} {k : Hp} : ∀ {d : D} {v : V}, Rep K k v d → d.toPy.canLay0 = true → Dp K k v d.toPy
  | .non, _, .non, _ => .non
  | .bl b, _, .bl _, _ => .bl b
  | .int i, _, .int _, _ => .int i
  | .str x, _, .str _, _ => .str x
  | .lst l, _, .lst h r, q => .lst (SqL.of h) (RepL.dp r q)
  | .tup l, _, .tup h r, q => .tup h (RepL.dp r q)
  | .dct _ _, _, _, q => by cases q
  | .obj _ _ _, _, _, q => by cases q
  | .ty _, _, _, q => by cases q
  | .ref _, _, _, q => by cases q
  | .exc _ _ _ _ _, _, _, q => by cases q
theorem RepL.dp {K : PySem.W.Frag} {k : Hp} : ∀ {ds : List D} {vs : List V}, RepL K k vs ds → PyData.canLayAll0 (toPyL ds) = true → DpAll K k vs (toPyL ds)
  | [], _, .nil, _ => .nil
  | d :: ds, _, .cons h r, q => by
    have q' : (d.toPy.canLay0 && PyData.canLayAll0 (toPyL ds)) = true := q
    obtain ⟨q1, q2⟩ := Bool.and_eq_true_iff.mp q'
    exact .cons (Rep.dp h q1) (RepL.dp r q2)
end
theorem SqL.up {K : PySem.W.Frag} {k h : Hp} {a : Addr} {xs : List V} (e : Same k h) (q : SqL K k a xs) : SqL K h a xs := e.seq q
mutual
theorem Dp.up {K : PySem.W.Frag} {k h : Hp} (e : Same k h) : ∀ {v : V} {d : PyData}, Dp K k v d → Dp K h v d
  | _, _, .non => .non
  | _, _, .bl b => .bl b
  | _, _, .int i => .int i
  | _, _, .str x => .str x
  | _, _, .lst q r => .lst (e.seq q) (DpAll.up e r)
  | _, _, .tup q r => .tup (Same.sqt e q) (DpAll.up e r)
theorem DpAll.up {K : PySem.W.Frag} {k h : Hp} (e : Same k h) : ∀ {vs : List V} {ds : List PyData}, DpAll K k vs ds → DpAll K h vs ds
  | _, _, .nil => .nil
  | _, _, .cons q r => .cons (Dp.up e q) (DpAll.up e r)
end

abbrev No : Addr → Prop := fun _ => False
section
variable {K : PySem.W.Frag} {Φ : D → Prop}
/-! ### operators -/
def rAddK (K : PySem.W.Frag) : R2 := fun x y H Q => rI0 (fun i j => .int (i + j)) x y H Q ∨ (∃ i j, x = .str i ∧ y = .str j ∧ i.length + j.length ≤ sizeLine ∧ Q (.str (i ++ j)) H) ∨ rCat x y H Q ∨ rCatA K x y H Q
theorem op_addK {X : Cx} : OpR X (binaryOp .Add) (rAddK X.K) := op_add.or (op_add_str.or (op_cat.or op_catA))
theorem rd_add_int {i j : Int} (q : Φ (.int (i + j))) : RD K (rAddK K) (.int i) (.int j) Φ := fun k h v1 v2 e r1 r2 Q z => by
  cases r1; cases r2
  exact .inl ⟨i, j, rfl, rfl, z _ k h _ (Grow.refl e) (.int _) q⟩
theorem rd_add_str {i j : Str} (l : i.length + j.length ≤ sizeLine) (q : Φ (.str (i ++ j))) : RD K (rAddK K) (.str i) (.str j) Φ := fun k h v1 v2 e r1 r2 Q z => by
  cases r1; cases r2
  exact .inr (.inl ⟨i, j, rfl, rfl, l, z _ k h _ (Grow.refl e) (.str _) q⟩)
theorem rd_add_lst {xs ys : List D} (l : xs.length + ys.length ≤ sizeLine) (q : Φ (.lst (xs ++ ys))) : RD K (rAddK K) (.lst xs) (.lst ys) Φ := fun k h v1 v2 e r1 r2 Q z => by
  cases r1 with
  | lst h1 r1 => cases r2 with
    | lst h2 r2 =>
      refine .inr (.inr (.inl ⟨_, _, _, _, rfl, rfl, e _ _ h1, e _ _ h2, by rw [r1.length, r2.length]; exact l, fun p n => ?_⟩))
      have g : ∀ {o}, NT o → Grow No k h (upd k p o) (upd h p o) := fun t => Grow.new e n t
      exact z _ _ _ _ (g (by nofun)) (.lst upd_same ((r1.append r2).mono (g (by nofun)).kk)) q
theorem rd_add_tup {xs ys : List D} (l : xs.length + ys.length ≤ sizeLine) (q : Φ (.tup (xs ++ ys))) : RD K (rAddK K) (.tup xs) (.tup ys) Φ := fun k h v1 v2 e r1 r2 Q z => by
  cases r1 with
  | tup h1 r1 => cases r2 with
    | tup h2 r2 =>
      refine .inr (.inr (.inr ⟨_, _, _, _, rfl, rfl, Same.sqt e h1, Same.sqt e h2, by rw [r1.length, r2.length]; exact l, fun e0 => ?_, fun _ e0 => ?_, fun _ _ p n => ?_⟩))
      · subst e0
        cases r1
        exact z _ k h _ (Grow.refl e) (.tup h2 r2) q
      · subst e0
        cases r2
        rw [List.append_nil] at q
        exact z _ k h _ (Grow.refl e) (.tup h1 r1) q
      · have g : ∀ {o}, NT o → Grow No k h (upd k p o) (upd h p o) := fun t => Grow.new e n t
        exact z _ _ _ _ (g (by nofun)) (.tup (.inl (.inl upd_same)) ((r1.append r2).mono (g (by nofun)).kk)) q
def rSubK : R2 := rI0 fun i j => .int (i - j)
theorem op_subK {X : Cx} : OpR X (binaryOp .Sub) rSubK := op_sub
theorem rd_sub {i j : Int} (q : Φ (.int (i - j))) : RD K rSubK (.int i) (.int j) Φ := fun k h v1 v2 e r1 r2 Q z => by
  cases r1; cases r2
  exact ⟨i, j, rfl, rfl, z _ k h _ (Grow.refl e) (.int _) q⟩
def rMulK : R2 := fun x y H Q => rI CMulW (fun i j => .int (i * j)) x y H Q ∨ rI CMul (fun i j => .int (i * j)) x y H Q ∨ rRep x y H Q
theorem op_mulK {X : Cx} : OpR X (binaryOp .Mult) rMulK := op_mulW.or (op_mul.or op_rep)
theorem rd_mul {i j : Int} (l : CMul i j) (q : Φ (.int (i * j))) : RD K rMulK (.int i) (.int j) Φ := fun k h v1 v2 e r1 r2 Q z => by
  cases r1; cases r2
  exact .inr (.inl ⟨i, j, rfl, rfl, l, z _ k h _ (Grow.refl e) (.int _) q⟩)
theorem rd_mulW {i j : Int} (l : CMulW i j) (q : Φ (.int (i * j))) : RD K rMulK (.int i) (.int j) Φ := fun k h v1 v2 e r1 r2 Q z => by
  cases r1; cases r2
  exact .inl ⟨i, j, rfl, rfl, l, z _ k h _ (Grow.refl e) (.int _) q⟩
theorem RepL.rep {k : Hp} {vs : List V} {ds : List D} (r : RepL K k vs ds) : ∀ n : Nat, RepL K k (List.replicate n vs).flatten (List.replicate n ds).flatten
  | 0 => .nil
  | n + 1 => by
    rw [List.replicate_succ, List.replicate_succ, List.flatten_cons, List.flatten_cons]
    exact r.append (RepL.rep r n)
theorem rd_rep {xs : List D} {n : Int} (l1 : -(2 ^ 63) ≤ n) (l2 : n < 2 ^ 63) (l3 : xs.length * n.toNat ≤ sizeLine) (q : Φ (.lst (List.replicate n.toNat xs).flatten)) : RD K rMulK (.lst xs) (.int n) Φ := fun k h v1 v2 e r1 r2 Q z => by
  cases r1 with
  | lst h1 r1 =>
    cases r2
    refine .inr (.inr ⟨_, _, _, rfl, rfl, e _ _ h1, l1, l2, by rw [r1.length]; exact l3, fun p n => ?_⟩)
    have g : ∀ {o}, NT o → Grow No k h (upd k p o) (upd h p o) := fun t => Grow.new e n t
    exact z _ _ _ _ (g (by nofun)) (.lst upd_same ((r1.rep _).mono (g (by nofun)).kk)) q
def rModK : R2 := rI (fun _ j => 0 < j) fun i j => .int (i % j)
theorem op_modK {X : Cx} : OpR X (binaryOp .Mod) rModK := op_mod
theorem rd_mod {i j : Int} (l : 0 < j) (q : Φ (.int (i % j))) : RD K rModK (.int i) (.int j) Φ := fun k h v1 v2 e r1 r2 Q z => by
  cases r1; cases r2
  exact ⟨i, j, rfl, rfl, l, z _ k h _ (Grow.refl e) (.int _) q⟩
def rDivK : R2 := rI CDivW fun i j => .int (i / j)
theorem op_divK {X : Cx} : OpR X (binaryOp .FloorDiv) rDivK := op_fdivW
theorem rd_div {i j : Int} (l : CDivW i j) (q : Φ (.int (i / j))) : RD K rDivK (.int i) (.int j) Φ := fun k h v1 v2 e r1 r2 Q z => by
  cases r1; cases r2
  exact ⟨i, j, rfl, rfl, l, z _ k h _ (Grow.refl e) (.int _) q⟩
def rPowK : R2 := rI CPow fun i j => .int (i ^ j.toNat)
theorem op_powK {X : Cx} : OpR X (binaryOp .Pow) rPowK := op_pow
theorem rd_pow {i j : Int} (l : CPow i j) (q : Φ (.int (i ^ j.toNat))) : RD K rPowK (.int i) (.int j) Φ := fun k h v1 v2 e r1 r2 Q z => by
  cases r1; cases r2
  exact ⟨i, j, rfl, rfl, l, z _ k h _ (Grow.refl e) (.int _) q⟩
def rNegK : V → Hp → VK → Prop := rU fun i => .int (-i)
theorem un_negK {X : Cx} : UnR X (unaryOp .USub) rNegK := un_neg
theorem ru_neg {i : Int} (q : Φ (.int (-i))) : RU K rNegK (.int i) Φ := fun k h v1 e r1 Q z => by
  cases r1
  exact ⟨i, rfl, z _ k h _ (Grow.refl e) (.int _) q⟩
/-! ### comparisons -/
def rLtK : R2 := rI0 fun i j => .bl (decide (i < j))
def rLeK : R2 := rI0 fun i j => .bl (decide (i ≤ j))
def rGtK : R2 := rI0 fun i j => .bl (decide (j < i))
def rGeK : R2 := rI0 fun i j => .bl (decide (j ≤ i))
theorem op_ltK {X : Cx} : OpR X (compareOp .Lt) rLtK := op_lt
theorem op_leK {X : Cx} : OpR X (compareOp .LtE) rLeK := op_le
theorem op_gtK {X : Cx} : OpR X (compareOp .Gt) rGtK := op_gt
theorem op_geK {X : Cx} : OpR X (compareOp .GtE) rGeK := op_ge
theorem rd_lt {i j : Int} (q : Φ (.bl (decide (i < j)))) : RD K rLtK (.int i) (.int j) Φ := fun k h v1 v2 e r1 r2 Q z => by
  cases r1; cases r2
  exact ⟨i, j, rfl, rfl, z _ k h _ (Grow.refl e) (.bl _) q⟩
theorem rd_le {i j : Int} (q : Φ (.bl (decide (i ≤ j)))) : RD K rLeK (.int i) (.int j) Φ := fun k h v1 v2 e r1 r2 Q z => by
  cases r1; cases r2
  exact ⟨i, j, rfl, rfl, z _ k h _ (Grow.refl e) (.bl _) q⟩
theorem rd_gt {i j : Int} (q : Φ (.bl (decide (j < i)))) : RD K rGtK (.int i) (.int j) Φ := fun k h v1 v2 e r1 r2 Q z => by
  cases r1; cases r2
  exact ⟨i, j, rfl, rfl, z _ k h _ (Grow.refl e) (.bl _) q⟩
theorem rd_ge {i j : Int} (q : Φ (.bl (decide (j ≤ i)))) : RD K rGeK (.int i) (.int j) Φ := fun k h v1 v2 e r1 r2 Q z => by
  cases r1; cases r2
  exact ⟨i, j, rfl, rfl, z _ k h _ (Grow.refl e) (.bl _) q⟩
def rEqDc : R2 := fun x y H Q => ∃ a b kvs, x = .ref a ∧ y = .ref b ∧ H a = some (.dK kvs) ∧ H b = some (.dK kvs) ∧ (kvs.map (·.1)).Nodup ∧ (∀ p ∈ kvs, flatB p.2 = true) ∧ Q (.bl true) H
def rEqK (K : PySem.W.Frag) : R2 := fun x y H Q => rEq x y H Q ∨ rEqD K x y H Q ∨ rEqDc x y H Q
def rNeK (K : PySem.W.Frag) : R2 := fun x y H Q => rNe x y H Q ∨ rNeD K x y H Q
theorem op_eqK {X : Cx} (hu : X.A.units + 64 < cLine) : OpR X (compareOp .Eq) (rEqK X.K) := op_eq.or (OpR.or (op_eqD hu) (op_eq_dict (by omega)))
theorem op_neK {X : Cx} (hu : X.A.units + 64 < cLine) : OpR X (compareOp .NotEq) (rNeK X.K) := op_ne.or (op_neD hu)
theorem decInt {i j : Int} : decide (V.int i = V.int j) = decide (i = j) := by
  by_cases h : i = j
  · subst h; simp
  · have n : ¬ V.int i = V.int j := fun z => h (V.int.inj z)
    rw [decide_eq_false h, decide_eq_false n]
theorem decStr {i j : Str} : decide (V.str i = V.str j) = decide (i = j) := by
  by_cases h : i = j
  · subst h; simp
  · have n : ¬ V.str i = V.str j := fun z => h (V.str.inj z)
    rw [decide_eq_false h, decide_eq_false n]
theorem decBl {i j : Bool} : decide (V.bl i = V.bl j) = decide (i = j) := by
  by_cases h : i = j
  · subst h; simp
  · have n : ¬ V.bl i = V.bl j := fun z => h (V.bl.inj z)
    rw [decide_eq_false h, decide_eq_false n]
theorem rd_eq_int {i j : Int} (q : Φ (.bl (decide (i = j)))) : RD K (rEqK K) (.int i) (.int j) Φ := fun k h v1 v2 e r1 r2 Q z => by
  cases r1; cases r2
  exact .inl ⟨rfl, z _ k h _ (Grow.refl e) (.bl _) (by rw [decInt]; exact q)⟩
theorem rd_ne_int {i j : Int} (q : Φ (.bl (!decide (i = j)))) : RD K (rNeK K) (.int i) (.int j) Φ := fun k h v1 v2 e r1 r2 Q z => by
  cases r1; cases r2
  exact .inl ⟨rfl, z _ k h _ (Grow.refl e) (.bl _) (by rw [decInt]; exact q)⟩
theorem rd_eq_str {i j : Str} (q : Φ (.bl (decide (i = j)))) : RD K (rEqK K) (.str i) (.str j) Φ := fun k h v1 v2 e r1 r2 Q z => by
  cases r1; cases r2
  exact .inl ⟨rfl, z _ k h _ (Grow.refl e) (.bl _) (by rw [decStr]; exact q)⟩
theorem rd_ne_str {i j : Str} (q : Φ (.bl (!decide (i = j)))) : RD K (rNeK K) (.str i) (.str j) Φ := fun k h v1 v2 e r1 r2 Q z => by
  cases r1; cases r2
  exact .inl ⟨rfl, z _ k h _ (Grow.refl e) (.bl _) (by rw [decStr]; exact q)⟩
theorem rd_eq_bl {i j : Bool} (q : Φ (.bl (decide (i = j)))) : RD K (rEqK K) (.bl i) (.bl j) Φ := fun k h v1 v2 e r1 r2 Q z => by
  cases r1; cases r2
  exact .inl ⟨rfl, z _ k h _ (Grow.refl e) (.bl _) (by rw [decBl]; exact q)⟩
theorem rd_ne_bl {i j : Bool} (q : Φ (.bl (!decide (i = j)))) : RD K (rNeK K) (.bl i) (.bl j) Φ := fun k h v1 v2 e r1 r2 Q z => by
  cases r1; cases r2
  exact .inl ⟨rfl, z _ k h _ (Grow.refl e) (.bl _) (by rw [decBl]; exact q)⟩
theorem rd_eq_py {d1 d2 : D} (h1 : SeqAt.shaped d1.toPy = true) (h2 : SeqAt.shaped d2.toPy = true) (q : Φ (.bl (PyData.eqv d1.toPy d2.toPy))) : RD K (rEqK K) d1 d2 Φ := fun k h v1 v2 e r1 r2 Q z =>
  .inr (.inl ⟨_, _, Dp.up e (r1.dp (SeqAt.canLay_of_shaped h1)), Dp.up e (r2.dp (SeqAt.canLay_of_shaped h2)), h1, h2, z _ k h _ (Grow.refl e) (.bl _) q⟩)
theorem rd_ne_py {d1 d2 : D} (h1 : SeqAt.shaped d1.toPy = true) (h2 : SeqAt.shaped d2.toPy = true) (q : Φ (.bl (!PyData.eqv d1.toPy d2.toPy))) : RD K (rNeK K) d1 d2 Φ := fun k h v1 v2 e r1 r2 Q z =>
  .inr ⟨_, _, Dp.up e (r1.dp (SeqAt.canLay_of_shaped h1)), Dp.up e (r2.dp (SeqAt.canLay_of_shaped h2)), h1, h2, z _ k h _ (Grow.refl e) (.bl _) q⟩
/-- is (not) None -/
def isNon : D → Bool
  | .non => true
  | _ => false
def rIsK : R2 := fun x y H Q => (y = .non ∧ Q (.bl (decide (x = .non))) H) ∨ rIsB x y H Q
def rIsnotK : R2 := fun x y H Q => y = .non ∧ Q (.bl (!decide (x = .non))) H
theorem op_isK {X : Cx} : OpR X (compareOp .Is) rIsK := op_isN.or op_isBl
theorem op_isnotK {X : Cx} : OpR X (compareOp .IsNot) rIsnotK := op_notN
theorem Rep.isNon {k : Hp} {v : V} {d : D} (r : Rep K k v d) : decide (v = .non) = DL.isNon d := by cases r <;> first | rfl | simp [DL.isNon]
theorem rd_is {d : D} (q : Φ (.bl (isNon d))) : RD K rIsK d .non Φ := fun k h v1 v2 e r1 r2 Q z => by
  cases r2
  exact .inl ⟨rfl, z _ k h _ (Grow.refl e) (.bl _) (by rw [r1.isNon]; exact q)⟩
theorem rd_is_bl {a b : Bool} (q : Φ (.bl (decide (a = b)))) : RD K rIsK (.bl a) (.bl b) Φ := fun k h v1 v2 e r1 r2 Q z => by
  cases r1; cases r2
  exact .inr ⟨a, b, rfl, rfl, z _ k h _ (Grow.refl e) (.bl _) q⟩
theorem rd_isnot {d : D} (q : Φ (.bl (!isNon d))) : RD K rIsnotK d .non Φ := fun k h v1 v2 e r1 r2 Q z => by
  cases r2
  exact ⟨rfl, z _ k h _ (Grow.refl e) (.bl _) (by rw [r1.isNon]; exact q)⟩
/-- x in items -/
def flatD : D → Bool
  | .non | .bl _ | .int _ | .str _ => true
  | _ => false
theorem Rep.flat {k : Hp} {v : V} {d : D} (r : Rep K k v d) : flatV v = flatD d := by cases r <;> rfl
theorem RepL.flat {k : Hp} : ∀ {vs : List V} {ds : List D}, RepL K k vs ds → vs.all flatV = ds.all flatD
  | _, _, .nil => rfl
  | _, _, .cons h r => by rw [List.all_cons, List.all_cons, h.flat, RepL.flat r]
def eqF (d e : D) : Bool := PyData.eqv d.toPy e.toPy
theorem Rep.eqF {k : Hp} {v w : V} {d e : D} (r : Rep K k v d) (s : Rep K k w e) (fd : flatD d = true) (fe : flatD e = true) : eqV v w = DL.eqF d e := by
  cases r <;> cases s <;> first | rfl | (cases fd) | (cases fe) | (simp [DL.eqF, D.toPy, eqV, PyData.eqv])
theorem RepL.inV {k : Hp} {x : V} {d : D} (rx : Rep K k x d) (fx : flatD d = true) : ∀ {vs : List V} {ds : List D}, RepL K k vs ds → ds.all flatD = true → L2.inV x vs = ds.any fun y => DL.eqF y d
  | _, _, .nil, _ => rfl
  | _, _, .cons h r, f => by
    rw [List.all_cons] at f
    obtain ⟨f1, f2⟩ := Bool.and_eq_true_iff.mp f
    have ih := RepL.inV rx fx r f2
    unfold L2.inV at ih ⊢
    rw [List.any_cons, List.any_cons, ih, h.eqF rx f1 fx]
def rInK (K : PySem.W.Frag) : R2 := fun x y H Q => rIn K false x y H Q ∨ ∃ (c : Nat) (z : Str), x = .str ⟨#[c]⟩ ∧ y = .str z ∧ Q (.bl (decide (c ∈ z.cps.toList))) H
def rNinK (K : PySem.W.Frag) : R2 := fun x y H Q => rIn K true x y H Q ∨ ∃ (c : Nat) (z : Str), x = .str ⟨#[c]⟩ ∧ y = .str z ∧ Q (.bl (!decide (c ∈ z.cps.toList))) H
theorem op_inK {X : Cx} : OpR X (compareOp .In) (rInK X.K) := op_in_seq.or op_in_sign
theorem op_ninK {X : Cx} : OpR X (compareOp .NotIn) (rNinK X.K) := op_notIn_seq.or op_notIn_sign
def seqOf : D → Option (List D)
  | .lst l => some l
  | .tup l => some l
  | _ => none
theorem Rep.seq {k h : Hp} {v : V} {d : D} {l : List D} (e : Same k h) (r : Rep K k v d) (q : seqOf d = some l) : ∃ p xs, v = .ref p ∧ (SqL K h p xs ∨ SqT K h p xs) ∧ RepL K k xs l := by
  cases r <;> cases q
  · rename_i a vs hk hr
    exact ⟨_, _, rfl, .inl (SqL.of (e _ _ hk)), hr⟩
  · rename_i a vs hk hr
    exact ⟨_, _, rfl, .inr (Same.sqt e hk), hr⟩
theorem rd_in {x y : D} {l : List D} (hy : seqOf y = some l) (fx : flatD x = true) (fl : l.all flatD = true) (q : Φ (.bl (l.any fun y => eqF y x))) : RD K (rInK K) x y Φ := fun k h v1 v2 e r1 r2 Q z => by
  obtain ⟨p, xs, rfl, s, r⟩ := r2.seq e hy
  refine .inl ⟨p, xs, rfl, s, by rw [r1.flat]; exact fx, by rw [r.flat]; exact fl, ?_⟩
  rw [if_neg Bool.false_ne_true, r.inV r1 fx fl]
  exact z _ k h _ (Grow.refl e) (.bl _) q
theorem rd_nin {x y : D} {l : List D} (hy : seqOf y = some l) (fx : flatD x = true) (fl : l.all flatD = true) (q : Φ (.bl (!l.any fun y => eqF y x))) : RD K (rNinK K) x y Φ := fun k h v1 v2 e r1 r2 Q z => by
  obtain ⟨p, xs, rfl, s, r⟩ := r2.seq e hy
  refine .inl ⟨p, xs, rfl, s, by rw [r1.flat]; exact fx, by rw [r.flat]; exact fl, ?_⟩
  rw [if_pos rfl, r.inV r1 fx fl]
  exact z _ k h _ (Grow.refl e) (.bl _) q
/-! ### subscripts -/
def atD (l : List D) (i : Int) : Option D := atI l i
def rIxK (K : PySem.W.Frag) : R2 := rIx K
theorem ix_K {X : Cx} : IxR X (rIxK X.K) := ix_seq
theorem RepL.atI {k : Hp} {vs : List V} {ds : List D} {i : Int} {d : D} (r : RepL K k vs ds) (q : L2.atI ds i = some d) : ∃ v, L2.atI vs i = some v ∧ Rep K k v d := by
  unfold L2.atI at q ⊢
  rw [r.length]
  cases e : ixN ds.length i with
  | none => rw [e] at q; cases q
  | some j =>
    rw [e] at q
    exact r.get q
theorem rd_ix {x : D} {l : List D} {i : Int} {d : D} (hx : seqOf x = some l) (ha : atI l i = some d) (q : Φ d) : RD K (rIxK K) x (.int i) Φ := fun k h v1 v2 e r1 r2 Q z => by
  obtain ⟨p, xs, rfl, s, r⟩ := r1.seq e hx
  cases r2
  obtain ⟨v, hv, rv⟩ := r.atI ha
  rcases s with s | s
  · exact .inl ⟨p, xs, i, v, rfl, rfl, s, hv, z v k h d (Grow.refl e) rv q⟩
  · exact .inr (.inl ⟨p, xs, i, v, rfl, rfl, s, hv, z v k h d (Grow.refl e) rv q⟩)
theorem rd_ixS {x : Str} {i : Int} {c : Nat} (l : x.length ≤ sizeLine) (ha : atI x.cps.toList i = some c) (q : Φ (.str ⟨#[c]⟩)) : RD K (rIxK K) (.str x) (.int i) Φ := fun k h v1 v2 e r1 r2 Q z => by
  cases r1; cases r2
  exact .inr (.inr ⟨x, i, c, rfl, rfl, l, ha, z _ k h _ (Grow.refl e) (.str _) q⟩)
/-! ### calls of built-ins -/
def rLenK (K : PySem.W.Frag) : List V → Hp → VK → Prop := fun xs H Q => (∃ p ys, xs = [.ref p] ∧ (SqL K H p ys ∨ SqT K H p ys) ∧ Q (.int ys.length) H) ∨ (∃ z, xs = [.str z] ∧ z.length ≤ sizeLine ∧ Q (.int z.length) H) ∨
  ∃ a kvs, xs = [V.ref a] ∧ H a = some (.dK kvs) ∧ Q (.int kvs.length) H
theorem CallR.or {X : Cx} {f : Value} {r r' : List V → Hp → VK → Prop} (h : CallR X f r) (h' : CallR X f r') : CallR X f fun xs H Q => r xs H Q ∨ r' xs H Q := fun pins s σ H xs us Q I rr q => by
  rcases q with q | q
  · exact h pins s σ H xs us Q I rr q
  · exact h' pins s σ H xs us Q I rr q
theorem call_lenK {X : Cx} : CallR X (.builtin "len") (rLenK X.K) := CallR.or call_len_seq (CallR.or call_len_str call_lenD)
theorem rc_len {x : D} {l : List D} (hx : seqOf x = some l) (q : Φ (.int l.length)) : RC K (rLenK K) [x] Φ := fun k h vs e r Q z => by
  cases r with
  | cons r1 r2 =>
    cases r2
    obtain ⟨p, xs, rfl, s, r⟩ := r1.seq e hx
    exact .inl ⟨p, xs, rfl, s, z _ k h _ (Grow.refl e) (by rw [r.length]; exact .int _) q⟩
theorem rc_lenS {x : Str} (l : x.length ≤ sizeLine) (q : Φ (.int x.length)) : RC K (rLenK K) [.str x] Φ := fun k h vs e r Q z => by
  cases r with
  | cons r1 r2 =>
    cases r2; cases r1
    exact .inr (.inl ⟨x, rfl, l, z _ k h _ (Grow.refl e) (.int _) q⟩)
def rIntK : List V → Hp → VK → Prop := fun xs H Q => (∃ i, xs = [.int i] ∧ Q (.int i) H) ∨ ∃ k, xs = [.bl k] ∧ Q (.int (if k then 1 else 0)) H
theorem call_intK {X : Cx} : CallR X (.type "int") rIntK := call_int1
theorem rc_int {i : Int} (q : Φ (.int i)) : RC K rIntK [.int i] Φ := fun k h vs e r Q z => by
  cases r with
  | cons r1 r2 =>
    cases r2; cases r1
    exact .inl ⟨i, rfl, z _ k h _ (Grow.refl e) (.int _) q⟩
def rAbsK : List V → Hp → VK → Prop := fun xs H Q => ∃ i, xs = [.int i] ∧ Q (.int (if i < 0 then -i else i)) H
theorem call_absK {X : Cx} : CallR X (.builtin "abs") rAbsK := call_abs
theorem rc_abs {i : Int} (q : Φ (.int (if i < 0 then -i else i))) : RC K rAbsK [.int i] Φ := fun k h vs e r Q z => by
  cases r with
  | cons r1 r2 =>
    cases r2; cases r1
    exact ⟨i, rfl, z _ k h _ (Grow.refl e) (.int _) q⟩
def rListK (K : PySem.W.Frag) : List V → Hp → VK → Prop := fun xs H Q => ∃ p ys, xs = [.ref p] ∧ (SqL K H p ys ∨ SqT K H p ys) ∧ ∀ l, H l = none → Q (.ref l) (upd H l (.lst ys))
theorem call_listK {X : Cx} : CallR X (.type "list") (rListK X.K) := call_list_of
theorem rc_list {x : D} {l : List D} (hx : seqOf x = some l) (q : Φ (.lst l)) : RC K (rListK K) [x] Φ := fun k h vs e r Q z => by
  cases r with
  | cons r1 r2 =>
    cases r2
    obtain ⟨p, xs, rfl, s, r⟩ := r1.seq e hx
    refine ⟨p, xs, rfl, s, fun a n => ?_⟩
    have g : ∀ {o}, NT o → Grow No k h (upd k a o) (upd h a o) := fun t => Grow.new e n t
    exact z _ _ _ _ (g (by nofun)) (.lst upd_same (r.mono (g (by nofun)).kk)) q
def rTupK (K : PySem.W.Frag) : List V → Hp → VK → Prop := fun xs H Q => ∃ p ys, xs = [.ref p] ∧ ((SqL K H p ys ∧ ∀ l, H l = none → Q (.ref l) (upd H l (.tup ys))) ∨ (SqT K H p ys ∧ Q (.ref p) H))
theorem call_tupK {X : Cx} : CallR X (.type "tuple") (rTupK X.K) := call_tuple_of
theorem rc_tup {x : D} {l : List D} (hx : seqOf x = some l) (q : Φ (.tup l)) : RC K (rTupK K) [x] Φ := fun k h vs e r Q z => by
  cases r with
  | cons r1 r2 =>
    cases r2
    cases r1 with
    | lst h1 r1 =>
      cases hx
      refine ⟨_, _, rfl, .inl ⟨SqL.of (e _ _ h1), fun a n => ?_⟩⟩
      have g : ∀ {o}, NT o → Grow No k h (upd k a o) (upd h a o) := fun t => Grow.new e n t
      exact z _ _ _ _ (g (by nofun)) (.tup (.inl (.inl upd_same)) (r1.mono (g (by nofun)).kk)) q
    | tup h1 r1 =>
      cases hx
      exact ⟨_, _, rfl, .inr ⟨Same.sqt e h1, z _ k h _ (Grow.refl e) (.tup h1 r1) q⟩⟩
    | _ => cases hx
theorem RepL.bls {k : Hp} : ∀ {vs : List V} {bs : List Bool}, RepL K k vs (bs.map D.bl) → vs = bs.map V.bl
  | _, [], .nil => rfl
  | _, b :: bs, .cons (.bl _) r => by rw [List.map_cons, RepL.bls r]
theorem rc_any {bs : List Bool} (q : Φ (.bl (bs.any id))) : RC K (rAny K) [.lst (bs.map D.bl)] Φ := fun k h vs e r Q z => by
  cases r with
  | cons r1 r2 =>
    cases r2
    cases r1 with
    | lst h1 r1 =>
      have ev := r1.bls
      subst ev
      exact ⟨_, bs, rfl, SqL.of (e _ _ h1), z _ k h _ (Grow.refl e) (.bl _) q⟩
theorem rc_all {bs : List Bool} (q : Φ (.bl (bs.all id))) : RC K (rAll K) [.lst (bs.map D.bl)] Φ := fun k h vs e r Q z => by
  cases r with
  | cons r1 r2 =>
    cases r2
    cases r1 with
    | lst h1 r1 =>
      have ev := r1.bls
      subst ev
      exact ⟨_, bs, rfl, SqL.of (e _ _ h1), z _ k h _ (Grow.refl e) (.bl _) q⟩
theorem rc_sum {ns : List Int} (q : Φ (.int ns.sum)) : RC K (rSum K) [.lst (ns.map D.int)] Φ := fun k h vs e r Q z => by
  cases r with
  | cons r1 r2 =>
    cases r2
    cases r1 with
    | lst h1 r1 =>
      have ev := r1.ints
      subst ev
      exact ⟨_, ns, rfl, SqL.of (e _ _ h1), z _ k h _ (Grow.refl e) (.int _) q⟩
end
end DL

set_option Elab.async false
set_option linter.all false
set_option maxRecDepth 100000
set_option maxHeartbeats 2000000
namespace DL
open PySem PySem.Spec PyProof.Rows L2

/-! ### what a def promises, by data -/
/-- resource, arguments, count, what is wanted of the value, of an exception (its class, its fields) -/
abbrev FT := Res → List D → Nat → (D → Nat → Prop) → (Addr → List Str → List D → Nat → Prop) → Prop
/-- an exception's own dict (none where it has no fields) -/
def XAt (h : Hp) (d : Option Addr) (ns : List Str) (ws : List V) : Prop := match ns with
  | [] => d = none
  | _ => ∃ dd, d = some dd ∧ h dd = some (.xd (ns.zip ws))
/-- an exception's wish, said by data -/
def XW (K : PySem.W.Frag) (R : Res) (k H : Hp) (E : XK) (C : Addr) (ns : List Str) (fs : List D) (b : Nat) : Prop :=
  ∀ dd ws k' h', Grow R.W k H k' h' → R.I b h' → XAt k' dd ns ws → RepL K k' ws fs → E (.ref C) dd h'
def SpG (K : PySem.W.Frag) (n : Nat) (f : FT) : Sp := fun vs H Q E => vs.length = n ∧ ∃ (R : Res) (k : Hp) (ds : List D) (b : Nat), RepL K k vs ds ∧ Same k H ∧ R.I b H ∧ (∀ a, R.W a → k a = none ∧ H a ≠ none) ∧
  f R ds b (fun d b' => ∀ v k' h', Grow R.W k H k' h' → R.I b' h' → Rep K k' v d → Q v h') (XW K R k H E)
/-- slots at the start -/
def startD (N : List Str) (ds : List D) : List (Option D) := ds.map some ++ List.replicate (N.length - ds.length) none
theorem start_rep {K : PySem.W.Frag} {k : Hp} {N : List Str} {vs : List V} {ds : List D} (r : RepL K k vs ds) {i : Nat} {d : D} (h : (startD N ds)[i]? = some (some d)) : ∃ v, (L2.start N vs)[i]? = some (some v) ∧ Rep K k v d := by
  unfold startD at h
  by_cases hi : i < ds.length
  · rw [List.getElem?_append_left (by simpa using hi), List.getElem?_map] at h
    cases e : ds[i]? with
    | none => rw [e] at h; cases h
    | some x =>
      rw [e] at h
      cases h
      obtain ⟨v, e2, r2⟩ := r.get e
      refine ⟨v, ?_, r2⟩
      unfold L2.start
      have hv : i < vs.length := by rw [r.length]; exact hi
      rw [List.getElem?_append_left (by simpa using hv), List.getElem?_map, e2]
      rfl
  · rw [List.getElem?_append_right (by simpa using hi), List.getElem?_replicate] at h
    split at h <;> cases h
theorem start_len {N : List Str} {vs : List V} {ds : List D} (e : vs.length = ds.length) : (startD N ds).length = (L2.start N vs).length := by
  unfold startD L2.start
  simp [e]
section
variable {P : Program} {w : World} {K : PySem.W.Frag} {mg : Str → Option Value} {base : Heap}
theorem fnG {x qual : Str} {st : Stmt} {f : Addr} {fd : FuncData} {N ps : List Str} {k n : Nat} {F : FT} (Fn : Fun K x qual st f fd) (S : FnScope N ps (defScope st)) (hn : ps.length = n)
    (hbody : ∀ (cdv : Value) (A : Around) (outer : List Env) (s : Shared) (H : Hp) (E : XK), Room k (A.deeper (envOfC qual (defScope st) s.heap.objs.size f cdv)) →
      ∃ t, PSs (cxOf (L2.CX P w) P w K mg base N qual (defScope st) f cdv A outer s H E) (defBody st) t ∧
        ∀ (R : Res) (k0 : Hp) (ds : List D) (b : Nat) (q : D → Nat → Prop) (x : Addr → List Str → List D → Nat → Prop), F R ds b q x → ds.length = n →
          (∀ C ns fs b' dd ws k' h', x C ns fs b' → Grow R.W k0 H k' h' → R.I b' h' → XAt k' dd ns ws → RepL K k' ws fs → E (.ref C) dd h') →
          WS ⟨K, R, k0, H, true, fun _ => none⟩ t { δ := startD N ds, b := b } { nx := fun ς => q .non ς.b, rt := fun d ς => q d ς.b }) :
    FnOk P w K mg base (L2.CX P w) (k + 1) f fd ps (SpG K n F) := by
  refine Fn.okX S (fun vs H Q E h => by rw [h.1, hn]) fun cdv A outer s H vs Q E hr h => ?_
  obtain ⟨t, ht, hw⟩ := hbody cdv A outer s H E hr
  obtain ⟨hl, R, k0, ds, b, rl, e, hi, hW, hf⟩ := h
  refine ⟨t, ht, ?_⟩
  refine hw R k0 ds b _ _ hf (by rw [← rl.length, hl]) (fun C ns fs b' dd ws k' h' z g i1 i2 i3 => z dd ws k' h' g i1 i2 i3) (L2.start N vs) k0 H ⟨Grow.refl e, hi, hW, fun i d q => start_rep rl q, fun p hp => absurd hp (by simp), List.nodup_nil, start_len rl.length, fun _ _ z => by cases z⟩ _ ?_
  exact ⟨fun σ' k' h' ς' S' _ q => q .non k' h' S'.g S'.i .non, fun _ _ _ _ _ _ q => q.elim, fun _ _ _ _ _ _ q => q.elim, fun v σ' k' h' d ς' S' _ r q => q v k' h' S'.g S'.i r⟩
end
section
variable {c : Cn} {ς : Sta} {Φ : D → Sta → Prop} {Ψ : Psi}
/-- back from a call that was given R -/
theorem SR.after {σ : L2.St} {k h k' h' : Hp} {b' : Nat} (S : SR c ς σ k h) (g : Grow c.R.W k h k' h') (i : c.R.I b' h') (hf : c.fr = true) : SR c { ς with b := b' } σ k' h' := by
  refine ⟨S.g.trans g, i, S.w, fun j d q => ?_, fun p hp => ?_, S.nd, S.len, S.kb.trans g.kk⟩
  · obtain ⟨v, e, r⟩ := S.s j d q
    exact ⟨v, e, r.mono g.kk⟩
  · obtain ⟨a1, a2, a3⟩ := S.m p hp
    have a2' : c.h0 p.1 = none := by
      rcases a2 with z | ⟨z, _⟩
      · exact z
      · rw [hf] at z; cases z
    have nW : ¬ c.R.W p.1 := fun z => (S.w _ z).2 a2'
    refine ⟨g.dj _ a1 a3.there, a2, ?_⟩
    obtain ⟨o, mo⟩ := p
    cases mo with
    | lst ds => obtain ⟨vs, q, r⟩ := a3; exact ⟨vs, g.hh _ _ nW q, r.mono g.kk⟩
    | ins C dx ns ds => obtain ⟨fs, q, n, r⟩ := a3; exact ⟨fs, g.hh _ _ nW q, n, r.mono g.kk⟩
    | dct ks ds => obtain ⟨kvs, q, n, r⟩ := a3; exact ⟨kvs, g.hh _ _ nW q, n, r.mono g.kk⟩
end
end DL

set_option Elab.async false
set_option linter.all false
set_option maxRecDepth 100000
set_option maxHeartbeats 2000000
namespace DL
open PySem PySem.Spec PyProof.Rows L2

/-- a promise: what is asked; what may come; what may be raised -/
structure Spc where
  pre : Res → List D → Nat → Prop
  post : Res → List D → Nat → D → Nat → Prop
  exc : Res → List D → Nat → Addr → List Str → List D → Nat → Prop := fun _ _ _ _ _ _ _ => False
def Spc.ft (s : Spc) : FT := fun R ds b q x => s.pre R ds b ∧ (∀ d b', s.post R ds b d b' → q d b') ∧ ∀ C ns fs b', s.exc R ds b C ns fs b' → x C ns fs b'
abbrev SpS (K : PySem.W.Frag) (n : Nat) (s : Spc) : Sp := SpG K n s.ft
/-- an outcome -/
inductive Out where
  | ret (d : D)
  | exc (C : Addr) (ns : List Str) (fs : List D)
/-- a def that hangs on its arguments alone -/
def spcF (g : List D → Option Out) : Spc where
  pre := fun _ ds _ => ∃ o, g ds = some o
  post := fun _ ds b d b' => g ds = some (.ret d) ∧ b' = b
  exc := fun _ ds b C ns fs b' => g ds = some (.exc C ns fs) ∧ b' = b
section
variable {P : Program} {w : World} {K : PySem.W.Frag} {mg : Str → Option Value} {base : Heap}
theorem fnS {x qual : Str} {st : Stmt} {f : Addr} {fd : FuncData} {N ps : List Str} {k n : Nat} {s : Spc} (Fn : Fun K x qual st f fd) (S : FnScope N ps (defScope st)) (hn : ps.length = n)
    (hbody : ∀ (cdv : Value) (A : Around) (outer : List Env) (sh : Shared) (H : Hp) (E : XK), Room k (A.deeper (envOfC qual (defScope st) sh.heap.objs.size f cdv)) →
      ∃ t, PSs (cxOf (L2.CX P w) P w K mg base N qual (defScope st) f cdv A outer sh H E) (defBody st) t ∧
        ∀ (R : Res) (k0 : Hp) (ds : List D) (b : Nat), s.pre R ds b → ds.length = n →
          (∀ C ns fs b' dd ws k' h', s.exc R ds b C ns fs b' → Grow R.W k0 H k' h' → R.I b' h' → XAt k' dd ns ws → RepL K k' ws fs → E (.ref C) dd h') →
          WS ⟨K, R, k0, H, true, fun _ => none⟩ t { δ := startD N ds, b := b } { nx := fun ς => s.post R ds b .non ς.b, rt := fun d ς => s.post R ds b d ς.b }) :
    FnOk P w K mg base (L2.CX P w) (k + 1) f fd ps (SpS K n s) := by
  refine fnG Fn S hn fun cdv A outer sh H E hr => ?_
  obtain ⟨t, ht, hw⟩ := hbody cdv A outer sh H E hr
  refine ⟨t, ht, fun R k0 ds b q x hf hl hE => ?_⟩
  obtain ⟨h1, h2, h3⟩ := hf
  exact ws_mono (hw R k0 ds b h1 hl fun C ns fs b' dd ws k' h' z => hE C ns fs b' dd ws k' h' (h3 C ns fs b' z)) (fun ς z => h2 _ _ z) (fun d b z => h2 _ _ z) (fun _ z => z) fun _ z => z
end
section
variable {c : Cn} {ς : Sta} {Φ : D → Sta → Prop} {Ψ : Psi}
abbrev XT := Addr → List Str → List D → Sta → Prop
/-- what is raised is taken -/
def XOk (c : Cn) (E : XK) (X : XT) : Prop := ∀ C ns fs dd ws σ k' h' ς', SR c ς' σ k' h' → XAt k' dd ns ws → RepL c.K k' ws fs → X C ns fs ς' → E (.ref C) dd h'
theorem xok0 {E : XK} : XOk c E fun _ _ _ _ => False := fun _ _ _ _ _ _ _ _ _ _ _ _ z => z.elim
/-- a call that is given no resource -/
theorem we_call {n : Nat} {s : Spc} {E : XK} {ta : TA} {X : XT} (hE : XOk c E X)
    (h : WL c ta ς fun ds ς1 => ds.length = n ∧ s.pre Res.none ds 0 ∧ (∀ d b, s.post Res.none ds 0 d b → Φ d ς1) ∧ ∀ C ns fs b, s.exc Res.none ds 0 C ns fs b → X C ns fs ς1) : WE c (tCall (SpS c.K n s) [] E ta) ς Φ := fun σ k hh S Q z =>
  h σ k hh S _ fun vs k1 h1 ds ς1 S1 e1 r1 ⟨l, p1, p2, p3⟩ => by
    rw [List.append_nil]
    refine ⟨by rw [r1.length, l], Res.none, k1, ds, 0, r1, S1.kh, trivial, fun a z => z.elim, p1, fun d b q v k' h' g _ r => ?_, fun C ns fs b q dd ws k' h' g _ e r => ?_⟩
    · exact z v k' h' d ς1 (S1.grow g) (e1.trans g.kk) r (p2 d b q)
    · exact hE C ns fs dd ws σ k' h' ς1 (S1.grow g) e r (p3 C ns fs b q)
/-- a call that is given the def's own resource -/
theorem we_callS {n : Nat} {s : Spc} {E : XK} {ta : TA} {X : XT} (hf : c.fr = true) (hE : XOk c E X)
    (h : WL c ta ς fun ds ς1 => ds.length = n ∧ s.pre c.R ds ς1.b ∧ (∀ d b, s.post c.R ds ς1.b d b → Φ d { ς1 with b := b }) ∧ ∀ C ns fs b, s.exc c.R ds ς1.b C ns fs b → X C ns fs { ς1 with b := b }) : WE c (tCall (SpS c.K n s) [] E ta) ς Φ := fun σ k hh S Q z =>
  h σ k hh S _ fun vs k1 h1 ds ς1 S1 e1 r1 ⟨l, p1, p2, p3⟩ => by
    rw [List.append_nil]
    refine ⟨by rw [r1.length, l], c.R, k1, ds, ς1.b, r1, S1.kh, S1.i, fun a z => ⟨S1.g.dj a (S1.w a z).1 (S1.w a z).2, S1.g.hd a (S1.w a z).2⟩, p1, fun d b q v k' h' g i r => ?_, fun C ns fs b q dd ws k' h' g i e r => ?_⟩
    · exact z v k' h' d _ (S1.after g i hf) (e1.trans g.kk) r (p2 d b q)
    · exact hE C ns fs dd ws σ k' h' _ (S1.after g i hf) e r (p3 C ns fs b q)
/-! ### instances -/
def lookD (f : Str) : List Str → List D → Option D
  | n :: ns, d :: ds => if f = n then some d else lookD f ns ds
  | _, _ => none
theorem look_rep {K : PySem.W.Frag} {k : Hp} {f : Str} : ∀ {fs : List (Str × V)} {ns : List Str} {ds : List D} {d : D}, fs.map (·.1) = ns → RepL K k (fs.map (·.2)) ds → lookD f ns ds = some d → ∃ v, fs.lookup f = some v ∧ Rep K k v d
  | [], ns, ds, d, e, r, h => by
    subst e
    cases r
    cases h
  | (n, v) :: fs, ns, ds, d, e, r, h => by
    subst e
    cases r with
    | cons r1 r2 =>
      rename_i d1 ds1
      have h : (if f = n then some d1 else lookD f (fs.map (·.1)) ds1) = some d := h
      by_cases q : f = n
      · rw [if_pos q] at h
        cases h
        subst q
        exact ⟨v, by simp [List.lookup], r1⟩
      · rw [if_neg q] at h
        obtain ⟨v', e2, r3⟩ := look_rep rfl r2 h
        have qq : (f == n) = false := by simpa using q
        exact ⟨v', by simp [List.lookup, qq, e2], r3⟩
theorem look_none {f : Str} : ∀ {fs : List (Str × V)}, f ∉ fs.map (·.1) → fs.lookup f = none
  | [], _ => rfl
  | (n, v) :: fs, h => by
    rw [List.map_cons, List.mem_cons, not_or] at h
    have qq : (f == n) = false := by simpa using h.1
    simp only [List.lookup, qq]
    exact look_none h.2
theorem we_fld {te : TE} {f : Str} (h : WE c te ς fun d ς1 => ∃ C ns ds d', d = .obj C ns ds ∧ Cls c.K C ∧ NoAttr c.K C f ∧ lookD f ns ds = some d' ∧ Φ d' ς1) : WE c (tFld c.K te f) ς Φ := fun σ k hh S Q z =>
  h σ k hh S _ fun v k1 h1 d ς1 S1 e1 r1 ⟨C, ns, ds, d', ed, hc, hn, hl, q⟩ => by
    subst ed
    cases r1 with
    | obj ek en er =>
      obtain ⟨v', e2, r2⟩ := look_rep en er hl
      exact ⟨_, _, _, _, v', rfl, S1.kh _ _ ek, hc, hn, e2, z v' k1 h1 d' ς1 S1 e1 r2 q⟩
/-- a method's call, given no resource -/
theorem we_meth {C : Addr} {m : Str} {n : Nat} {s : Spc} {E : XK} {te : TE} {ta : TA} {X : XT} (hE : XOk c E X)
    (h : WE c te ς fun d ς0 => ∃ ns fs, d = .obj C ns fs ∧ m ∉ ns ∧ WL c ta ς0 fun ds ς1 => (d :: ds).length = n ∧ s.pre Res.none (d :: ds) 0 ∧ (∀ e b, s.post Res.none (d :: ds) 0 e b → Φ e ς1) ∧ ∀ C ns fs b, s.exc Res.none (d :: ds) 0 C ns fs b → X C ns fs ς1) :
    WE c (tMeth C m (SpS c.K n s) [] E te ta) ς Φ := fun σ k hh S Q z =>
  h σ k hh S _ fun v k0 h0 d ς0 S0 e0 r0 ⟨ns, fs, ed, nm, q0⟩ => by
    subst ed
    have r0' := r0
    cases r0 with
    | obj ek en er =>
      refine ⟨_, _, _, rfl, S0.kh _ _ ek, look_none (by rw [en]; exact nm), ?_⟩
      refine q0 σ k0 h0 S0 _ fun vs k1 h1 ds ς1 S1 e1 r1 ⟨l, p1, p2, p3⟩ => ?_
      rw [List.append_nil]
      have rr : RepL c.K k1 (_ :: vs) (_ :: ds) := .cons (r0'.mono e1) r1
      refine ⟨by rw [rr.length, l], Res.none, k1, _ :: ds, 0, rr, S1.kh, trivial, fun a z => z.elim, p1, fun d b q v k' h' g _ r => ?_, fun C ns fs b q dd ws k' h' g _ e r => ?_⟩
      · exact z v k' h' d ς1 (S1.grow g) ((e0.trans e1).trans g.kk) r (p2 d b q)
      · exact hE C ns fs dd ws σ k' h' ς1 (S1.grow g) e r (p3 C ns fs b q)
end
/-! ### an instance made: __init__ -/
/-- __init__'s promise: the arguments behind self; the fields -/
structure SpcI where
  pre : List D → Prop
  post : List D → List Str → List D → Prop
  exc : List D → Addr → List Str → List D → Prop := fun _ _ _ _ => False
def initR (x : Addr) : Res := ⟨fun a => a = x, fun _ _ => True, fun _ _ _ _ h => h⟩
def SpI (K : PySem.W.Frag) (n : Nat) (C : Addr) (s : SpcI) : Sp := fun vs H Q E => vs.length = n ∧ ∃ (x dx : Addr) (us : List V) (k : Hp) (ds : List D), vs = .ref x :: us ∧ H x = some (.ins C dx []) ∧ k x = none ∧ RepL K k us ds ∧ Same k H ∧ s.pre ds ∧
  (∀ ns fs, s.post ds ns fs → ∀ k' h' ws, Grow (initR x).W k H k' h' → h' x = some (.ins C dx ws) → ws.map (·.1) = ns → RepL K k' (ws.map (·.2)) fs → Q .non h') ∧
  ∀ C' ns fs, s.exc ds C' ns fs → XW K (initR x) k H E C' ns fs 0
section
variable {P : Program} {w : World} {K : PySem.W.Frag} {mg : Str → Option Value} {base : Heap}
theorem fnI {x qual : Str} {st : Stmt} {f C : Addr} {fd : FuncData} {N ps : List Str} {k n : Nat} {s : SpcI} (Fn : Fun K x qual st f fd) (S : FnScope N ps (defScope st)) (hn : ps.length = n)
    (hbody : ∀ (cdv : Value) (A : Around) (outer : List Env) (sh : Shared) (H : Hp) (E : XK), Room k (A.deeper (envOfC qual (defScope st) sh.heap.objs.size f cdv)) →
      ∃ t, PSs (cxOf (L2.CX P w) P w K mg base N qual (defScope st) f cdv A outer sh H E) (defBody st) t ∧
        ∀ (o dx : Addr) (k0 : Hp) (ds : List D), s.pre ds → (D.ref o :: ds).length = n →
          (∀ C' ns fs b' dd ws k' h', s.exc ds C' ns fs → Grow (initR o).W k0 H k' h' → (initR o).I b' h' → XAt k' dd ns ws → RepL K k' ws fs → E (.ref C') dd h') →
          WS ⟨K, initR o, k0, H, false, fun _ => none⟩ t { δ := startD N (.ref o :: ds), m := [(o, .ins C dx [] [])], b := 0 }
            { nx := fun ς => ∃ ns fs, ς.m = [(o, .ins C dx ns fs)] ∧ s.post ds ns fs, rt := fun _ _ => False }) :
    FnOk P w K mg base (L2.CX P w) (k + 1) f fd ps (SpI K n C s) := by
  refine Fn.okX S (fun vs H Q E h => by rw [h.1, hn]) fun cdv A outer sh H vs Q E hr h => ?_
  obtain ⟨t, ht, hw⟩ := hbody cdv A outer sh H E hr
  obtain ⟨hl, o, dx, us, k0, ds, rfl, ho, ko, rl, e, hp, hq, hx⟩ := h
  refine ⟨t, ht, ?_⟩
  have rr : RepL K k0 (.ref o :: us) (.ref o :: ds) := .cons (.ref o) rl
  refine hw o dx k0 ds hp (by rw [← rr.length, hl]) (fun C' ns fs b' dd ws k' h' z g i1 i2 i3 => hx C' ns fs z dd ws k' h' g i1 i2 i3) (L2.start N _) k0 H ?_ _ ?_
  · refine ⟨Grow.refl e, trivial, fun a z => ?_, fun i d q => start_rep rr q, fun p hp => ?_, ?_, start_len rr.length, fun _ _ z => by cases z⟩
    · have z : a = o := z
      subst z
      exact ⟨ko, by show H _ ≠ none; rw [ho]; simp⟩
    · have z := List.mem_singleton.mp hp
      subst z
      exact ⟨ko, .inr ⟨rfl, rfl⟩, [], ho, rfl, .nil⟩
    · show List.Nodup [o]
      simp
  · refine ⟨fun σ' k' h' ς' S' _ q => ?_, fun _ _ _ _ _ _ q => q.elim, fun _ _ _ _ _ _ q => q.elim, fun v σ' k' h' d ς' S' _ r q => q.elim⟩
    obtain ⟨ns, fs, em, hpost⟩ := q
    obtain ⟨_, _, ws, a1, a2, a3⟩ := S'.m (o, .ins C dx ns fs) (by rw [em]; simp)
    exact hq ns fs hpost k' h' ws S'.g a1 a2 a3
end
section
variable {c : Cn} {ς : Sta} {Φ : D → Sta → Prop} {Ψ : Psi}
theorem we_make {C : Addr} {n : Nat} {s : SpcI} {E : XK} {ta : TA} {X : XT} (hE : XOk c E X)
    (h : WL c ta ς fun ds ς1 => ds.length + 1 = n ∧ s.pre ds ∧ (∀ ns fs, s.post ds ns fs → Φ (.obj C ns fs) ς1) ∧ ∀ C' ns fs, s.exc ds C' ns fs → X C' ns fs ς1) : WE c (tMake C (SpI c.K n C s) [] E ta) ς Φ := fun σ k hh S Q z =>
  h σ k hh S _ fun vs k1 h1 ds ς1 S1 e1 r1 ⟨l, p1, p2, p3⟩ x dx nx ndx nex => by
    rw [List.append_nil]
    have kx : k1 x = none := S1.kh.free nx
    have s1 : Same k1 (upd (upd h1 dx (.own x)) x (.ins C dx [])) := S1.kh.trans ((same_new ndx).trans (same_new (by rw [upd_ne (fun e => nex e.symm)]; exact nx)))
    have back : ∀ {k' h' : Hp}, Grow (initR x).W k1 (upd (upd h1 dx (.own x)) x (.ins C dx [])) k' h' → Grow No k1 h1 k' h' := fun {k' h'} g => by
      refine ⟨g.kk, g.kh, fun a o _ q => ?_, fun a q => ?_, fun a q n => g.dj a q ?_, g.kt⟩
      · have na : a ≠ x := ne_of_none q nx
        exact g.hh a o na (by rw [upd_ne na, upd_ne (ne_of_none q ndx)]; exact q)
      · refine g.hd a ?_
        have na : a ≠ x := fun e => q (by rw [e]; exact nx)
        have nd : a ≠ dx := fun e => q (by rw [e]; exact ndx)
        rw [upd_ne na, upd_ne nd]
        exact q
      · have na : a ≠ x := fun e => n (by rw [e]; exact nx)
        have nd : a ≠ dx := fun e => n (by rw [e]; exact ndx)
        rw [upd_ne na, upd_ne nd]
        exact n
    refine ⟨by rw [List.length_cons, r1.length, l], x, dx, vs, k1, ds, rfl, upd_same, kx, r1, s1, p1, fun ns fs hp k' h' ws g ex en er => ⟨rfl, ?_⟩, fun C' ns fs hx dd ws k' h' g _ e r => ?_⟩
    · have g1 := back g
      have kx' : k' x = none := g.dj x kx (by rw [upd_same]; simp)
      have kk : Same k' (upd k' x (.ins C dx ws)) := same_new kx'
      have g2 : Grow No k1 h1 (upd k' x (.ins C dx ws)) h' := by
        refine ⟨g1.kk.trans kk, fun a o q => ?_, g1.hh, g1.hd, fun a q n => ?_, fun a ps q => ?_⟩
        · by_cases ea : a = x
          · rw [ea, upd_same] at q
            rw [ea, ex]
            exact q
          · rw [upd_ne ea] at q
            exact g1.kh _ _ q
        · have na : a ≠ x := fun e => n (by rw [e]; exact nx)
          rw [upd_ne na]
          exact g1.dj a q n
        · by_cases ea : a = x
          · rw [ea, upd_same] at q; cases q
          · rw [upd_ne ea] at q; exact g1.kt a ps q
      exact z (.ref x) _ h' _ ς1 (S1.grow g2) (e1.trans g2.kk) (.obj upd_same en (er.mono kk)) (p2 ns fs hp)
    · exact hE C' ns fs dd ws σ k' h' ς1 (S1.grow (back g)) e r (p3 C' ns fs hx)
theorem nd_ix {α : Type} : ∀ {l : List α}, l.Nodup → ∀ {i j : Nat} {x : α}, l[i]? = some x → l[j]? = some x → i = j
  | [], _, _, _, _, h, _ => by simp at h
  | y :: l, hn, 0, 0, _, _, _ => rfl
  | y :: l, hn, 0, j + 1, x, h, g => by
    have e : y = x := by simpa using h
    have m : x ∈ l := List.mem_of_getElem? (by simpa using g)
    exact absurd (e ▸ m) (List.nodup_cons.mp hn).1
  | y :: l, hn, i + 1, 0, x, h, g => by
    have e : y = x := by simpa using g
    have m : x ∈ l := List.mem_of_getElem? (by simpa using h)
    exact absurd (e ▸ m) (List.nodup_cons.mp hn).1
  | y :: l, hn, i + 1, j + 1, x, h, g => by
    rw [nd_ix (List.nodup_cons.mp hn).2 (i := i) (j := j) (x := x) (by simpa using h) (by simpa using g)]
/-- mutable objects by their place -/
theorem SR.at {σ : L2.St} {k h : Hp} {j : Nat} {o : Addr} {mo : MO} (S : SR c ς σ k h) (e : ς.m[j]? = some (o, mo)) : k o = none ∧ (c.h0 o = none ∨ (c.fr = false ∧ c.R.W o)) ∧ MoR c.K k h o mo := S.m (o, mo) (List.mem_of_getElem? e)
theorem SR.put {σ : L2.St} {k h : Hp} {j : Nat} {o : Addr} {mo mo' : MO} {ho : HO} (S : SR c ς σ k h) (e : ς.m[j]? = some (o, mo)) (hI : ∀ b h h', c.fr = false → c.R.I b h → c.R.I b h') (r : MoR c.K k (upd h o ho) o mo') :
    SR c { ς with m := ς.m.set j (o, mo') } σ k (upd h o ho) := by
  obtain ⟨a1, a2, a3⟩ := S.at e
  obtain ⟨hj, hje⟩ := List.getElem?_eq_some_iff.mp e
  have kh : Same k (upd h o ho) := fun a u q => by
    have ne : a ≠ o := fun z => by rw [z, a1] at q; cases q
    rw [upd_ne ne]
    exact S.kh _ _ q
  refine ⟨⟨S.g.kk, kh, fun a u na q => ?_, fun a q => ?_, S.g.dj, S.g.kt⟩, ?_, S.w, S.s, fun p hp => ?_, ?_, S.len, S.kb⟩
  · have ne : a ≠ o := fun z => by
      rcases a2 with y | ⟨_, y⟩
      · rw [z, y] at q; cases q
      · exact na (by rw [z]; exact y)
    rw [upd_ne ne]
    exact S.g.hh a u na q
  · by_cases ea : a = o
    · rw [ea, upd_same]; simp
    · rw [upd_ne ea]; exact S.g.hd a q
  · rcases a2 with y | ⟨y, _⟩
    · exact c.R.st _ _ _ (fun a u wa q => by
        have ne : a ≠ o := fun z => by
          rcases wa with wa | wa
          · exact (S.w a wa).2 (by rw [z]; exact y)
          · subst z
            cases mo with
            | lst ds => obtain ⟨vs, q2, r⟩ := a3; rw [q2] at q; cases q; exact wa
            | ins C dx ns ds => obtain ⟨fs, q2, r⟩ := a3; rw [q2] at q; cases q; exact wa
            | dct ks ds => obtain ⟨kvs, q2, r⟩ := a3; rw [q2] at q; cases q; exact wa
        rw [upd_ne ne]
        exact q) S.i
    · exact hI _ _ _ y S.i
  · have hp : p ∈ ς.m.set j (o, mo') := hp
    obtain ⟨i, hi, ei⟩ := List.mem_iff_getElem.mp hp
    rw [List.getElem_set] at ei
    by_cases eij : j = i
    · rw [if_pos eij] at ei
      subst ei
      exact ⟨a1, a2, r⟩
    · rw [if_neg eij] at ei
      have hi' : i < ς.m.length := by rw [List.length_set] at hi; exact hi
      have hpm : p ∈ ς.m := by rw [← ei]; exact List.getElem_mem _
      obtain ⟨b1, b2, b3⟩ := S.m p hpm
      have ne : p.1 ≠ o := fun z => eij (nd_ix S.nd (x := o) (by rw [List.getElem?_map, e]; rfl) (by rw [List.getElem?_map, List.getElem?_eq_getElem hi', ei]; simp [z]))
      refine ⟨b1, b2, ?_⟩
      obtain ⟨po, pm⟩ := p
      cases pm with
      | lst ds => obtain ⟨vs, q, r⟩ := b3; exact ⟨vs, by rw [upd_ne ne]; exact q, r⟩
      | ins C dx ns ds => obtain ⟨fs, q, n, r⟩ := b3; exact ⟨fs, by rw [upd_ne ne]; exact q, n, r⟩
      | dct ks ds => obtain ⟨kvs, q, n, r⟩ := b3; exact ⟨kvs, by rw [upd_ne ne]; exact q, n, r⟩
  · have em : (ς.m.set j (o, mo')).map (·.1) = ς.m.map (·.1) := by
      rw [List.map_set]
      refine List.ext_getElem? fun i => ?_
      by_cases eij : j = i
      · subst eij
        rw [List.getElem?_set_self (by rw [List.length_map]; exact hj), List.getElem?_map, e]
        rfl
      · rw [List.getElem?_set_ne eij]
    show ((ς.m.set j (o, mo')).map (·.1)).Nodup
    rw [em]
    exact S.nd
end
end DL

set_option Elab.async false
set_option linter.all false
set_option maxRecDepth 100000
set_option maxHeartbeats 2000000
namespace DL
open PySem PySem.Spec PyProof.Rows L2

section
variable {c : Cn} {ς : Sta} {Φ : D → Sta → Prop} {Ψ : Psi}
theorem er_map {α β : Type} (f : α → β) : ∀ (l : List α) (j : Nat), (l.eraseIdx j).map f = (l.map f).eraseIdx j
  | [], _ => by simp
  | _ :: _, 0 => rfl
  | x :: l, j + 1 => by
    show f x :: (l.eraseIdx j).map f = f x :: (l.map f).eraseIdx j
    rw [er_map f l j]
/-! ### mutable lists -/
/-- xs.append(e) -/
theorem ws_append {j : Nat} {o : Addr} {ds : List D} {to te : TE} (hI : ∀ b h h', c.fr = false → c.R.I b h → c.R.I b h' := by first | exact (fun _ _ _ z => nomatch z) | exact (fun _ _ _ _ z => z))
    (h : WE c to ς fun d ς1 => d = .ref o ∧ (∃ ds, ς1.m[j]? = some (o, .lst ds)) ∧ WE c te ς1 fun e ς2 => ς2.m[j]? = some (o, .lst ds) ∧ ds.length < sizeLine ∧ Ψ.nx { ς2 with m := ς2.m.set j (o, .lst (ds ++ [e])) }) :
    WS c (tDrop (tBM c.K "list" rAppend to (tCons te tNil))) ς Ψ := fun σ k hh S E z =>
  h σ k hh S _ fun v k1 h1 d ς1 S1 e1 r1 ⟨ed, ⟨ds0, ej0⟩, q⟩ => by
    subst ed
    cases r1
    obtain ⟨_, _, vs0, hv0, _⟩ := S1.at ej0
    refine ⟨.inl ⟨rfl, vs0, SqL.of hv0⟩, q σ k1 h1 S1 _ fun y k2 h2 e ς2 S2 e2 r2 ⟨ej, l, q2⟩ => ?_⟩
    obtain ⟨a1, a2, vs, hv, rv⟩ := S2.at ej
    refine ⟨o, vs, y, rfl, rfl, hv, by rw [rv.length]; exact l, ?_⟩
    exact z.nx σ k2 _ _ (S2.put (mo' := .lst (ds ++ [e])) ej hI ⟨vs ++ [y], upd_same, rv.append (.cons r2 .nil)⟩) (e1.trans e2) q2
/-- xs.pop(i) -/
theorem we_pop {j i : Nat} {o : Addr} {ds : List D} {d : D} {to te : TE} (hI : ∀ b h h', c.fr = false → c.R.I b h → c.R.I b h' := by first | exact (fun _ _ _ z => nomatch z) | exact (fun _ _ _ _ z => z))
    (h : WE c to ς fun x ς1 => x = .ref o ∧ (∃ ds, ς1.m[j]? = some (o, .lst ds)) ∧ WE c te ς1 fun e ς2 => e = .int (i : Int) ∧ i < 2 ^ 63 ∧ ς2.m[j]? = some (o, .lst ds) ∧ ds[i]? = some d ∧ Φ d { ς2 with m := ς2.m.set j (o, .lst (ds.eraseIdx i)) }) :
    WE c (tBM c.K "list" rPopAt to (tCons te tNil)) ς Φ := fun σ k hh S Q z =>
  h σ k hh S _ fun v k1 h1 x ς1 S1 e1 r1 ⟨ed, ⟨ds0, ej0⟩, q⟩ => by
    subst ed
    cases r1
    obtain ⟨_, _, vs0, hv0, _⟩ := S1.at ej0
    refine ⟨.inl ⟨rfl, vs0, SqL.of hv0⟩, q σ k1 h1 S1 _ fun y k2 h2 e ς2 S2 e2 r2 ⟨ee, l, ej, ed, q2⟩ => ?_⟩
    subst ee
    cases r2
    obtain ⟨a1, a2, vs, hv, rv⟩ := S2.at ej
    obtain ⟨u, hu, ru⟩ := rv.get ed
    have hi : i < vs.length := (List.getElem?_eq_some_iff.mp hu).1
    refine ⟨o, vs, (i : Int), i, u, rfl, rfl, hv, by omega, by omega, (ixN_seq (by unfold ixN; rw [if_pos (by omega), if_pos (by omega)]; simp)).1, hu, ?_⟩
    exact z u k2 _ d _ (S2.put (mo' := .lst (ds.eraseIdx i)) ej hI ⟨vs.eraseIdx i, upd_same, rv.eraseIdx i⟩) (e1.trans e2) ru q2
/-- a target xs[i] -/
theorem wg_sub {j i : Nat} {o : Addr} {ds : List D} {d : D} {to ti : TE} {Φ : Sta → Prop} (hI : ∀ b h h', c.fr = false → c.R.I b h → c.R.I b h' := by first | exact (fun _ _ _ z => nomatch z) | exact (fun _ _ _ _ z => z))
    (h : WE c to ς fun x ς1 => x = .ref o ∧ WE c ti ς1 fun e ς2 => ∃ n, e = .int n ∧ ixN ds.length n = some i ∧ ς2.m[j]? = some (o, .lst ds) ∧ Φ { ς2 with m := ς2.m.set j (o, .lst (ds.set i d)) }) :
    WG c (gSub to ti rSetL) d ς Φ := fun σ k hh v S r Q z =>
  h σ k hh S _ fun x k1 h1 dx ς1 S1 e1 r1 ⟨ed, q⟩ => by
    subst ed
    cases r1
    refine q σ k1 h1 S1 _ fun y k2 h2 e ς2 S2 e2 r2 ⟨n, ee, ei, ej, q2⟩ => ?_
    subst ee
    cases r2
    obtain ⟨a1, a2, vs, hv, rv⟩ := S2.at ej
    refine ⟨o, vs, n, i, rfl, rfl, hv, by rw [rv.length]; exact ei, ?_⟩
    exact z σ k2 _ _ (S2.put (mo' := .lst (ds.set i d)) ej hI ⟨vs.set i v, upd_same, RepL.set (r.mono (e1.trans e2)) i rv⟩) (e1.trans e2) q2
/-- an item of a mutable list -/
theorem we_ixM {j : Nat} {o : Addr} {ds : List D} {d : D} {to ti : TE} (h : WE c to ς fun x ς1 => x = .ref o ∧ WE c ti ς1 fun e ς2 => ∃ n, e = .int n ∧ ς2.m[j]? = some (o, .lst ds) ∧ atI ds n = some d ∧ Φ d ς2) :
    WE c (tOp (rIxK c.K) to ti) ς Φ := fun σ k hh S Q z =>
  h σ k hh S _ fun x k1 h1 dx ς1 S1 e1 r1 ⟨ed, q⟩ => by
    subst ed
    cases r1
    refine q σ k1 h1 S1 _ fun y k2 h2 e ς2 S2 e2 r2 ⟨n, ee, ej, ea, q2⟩ => ?_
    subst ee
    cases r2
    obtain ⟨a1, a2, vs, hv, rv⟩ := S2.at ej
    obtain ⟨u, hu, ru⟩ := rv.atI ea
    exact .inl ⟨o, vs, n, u, rfl, rfl, SqL.of hv, hu, z u k2 h2 d ς2 S2 (e1.trans e2) ru q2⟩
/-- len of a mutable list -/
theorem we_lenM {j : Nat} {o : Addr} {ds : List D} {to : TE} (h : WE c to ς fun x ς1 => x = .ref o ∧ ς1.m[j]? = some (o, .lst ds) ∧ Φ (.int ds.length) ς1) :
    WE c (tCB (rLenK c.K) (tCons to tNil)) ς Φ := fun σ k hh S Q z =>
  h σ k hh S _ fun x k1 h1 dx ς1 S1 e1 r1 ⟨ed, ej, q⟩ => by
    subst ed
    cases r1
    obtain ⟨a1, a2, vs, hv, rv⟩ := S1.at ej
    exact .inl ⟨o, vs, rfl, .inl (SqL.of hv), z _ k1 h1 _ ς1 S1 e1 (by rw [rv.length]; exact .int _) q⟩
/-- a mutable list against data -/
theorem we_neM {j : Nat} {o : Addr} {ds : List D} {ta tb : TE} (h : WE c ta ς fun x ς1 => x = .ref o ∧ WE c tb ς1 fun e ς2 => ς2.m[j]? = some (o, .lst ds) ∧ SeqAt.shaped (D.lst ds).toPy = true ∧ SeqAt.shaped e.toPy = true ∧ Φ (.bl (!PyData.eqv (D.lst ds).toPy e.toPy)) ς2) :
    WE c (tOp (rNeK c.K) ta tb) ς Φ := fun σ k hh S Q z =>
  h σ k hh S _ fun x k1 h1 dx ς1 S1 e1 r1 ⟨ed, q⟩ => by
    subst ed
    cases r1
    refine q σ k1 h1 S1 _ fun y k2 h2 e ς2 S2 e2 r2 ⟨ej, s1, s2, q2⟩ => ?_
    obtain ⟨a1, a2, vs, hv, rv⟩ := S2.at ej
    have dl : Dp c.K h2 (.ref o) (D.lst ds).toPy := .lst (SqL.of hv) (DpAll.up S2.kh (rv.dp (SeqAt.canLay_of_shaped s1)))
    exact .inr ⟨_, _, dl, Dp.up S2.kh (r2.dp (SeqAt.canLay_of_shaped s2)), s1, s2, z _ k2 h2 _ ς2 S2 (e1.trans e2) (.bl _) q2⟩
/-- a mutable list is known from now on -/
theorem SR.freeze {σ : L2.St} {k h : Hp} {i j : Nat} {o : Addr} {ds : List D} (S : SR c ς σ k h) (e : ς.m[j]? = some (o, .lst ds)) (hi : ς.δ[i]? = some (some (.ref o))) (hf : c.fr = true) :
    ∃ k', SR c { ς with δ := ς.δ.set i (some (.lst ds)), m := ς.m.eraseIdx j } σ k' h ∧ Same k k' := by
  obtain ⟨a1, a2, vs, hv, rv⟩ := S.at e
  have a2 : c.h0 o = none := by
    rcases a2 with z | ⟨z, _⟩
    · exact z
    · rw [hf] at z; cases z
  have kk : Same k (upd k o (.lst vs)) := same_new a1
  obtain ⟨hj, hje⟩ := List.getElem?_eq_some_iff.mp e
  refine ⟨upd k o (.lst vs), ⟨⟨S.g.kk.trans kk, fun a u q => ?_, S.g.hh, S.g.hd, fun a q n => ?_, fun a ps q => ?_⟩, S.i, S.w, fun i' d q => ?_, fun p hp => ?_, ?_, ?_, S.kb.trans kk⟩, kk⟩
  · by_cases ea : a = o
    · rw [ea, upd_same] at q
      rw [ea, hv]
      exact q
    · rw [upd_ne ea] at q
      exact S.kh _ _ q
  · have ne : a ≠ o := fun z => n (by rw [z]; exact a2)
    rw [upd_ne ne]
    exact S.g.dj a q n
  · by_cases e : a = o
    · rw [e, upd_same] at q; cases q
    · rw [upd_ne e] at q; exact S.g.kt a ps q
  · have q : (ς.δ.set i (some (.lst ds)))[i']? = some (some d) := q
    by_cases eii : i = i'
    · subst eii
      have hl : i < ς.δ.length := (List.getElem?_eq_some_iff.mp hi).1
      rw [List.getElem?_set_self hl] at q
      cases q
      obtain ⟨v, h1, h2⟩ := S.s i _ hi
      cases h2
      exact ⟨_, h1, .lst upd_same (rv.mono kk)⟩
    · rw [List.getElem?_set_ne eii] at q
      obtain ⟨v, h1, h2⟩ := S.s i' d q
      exact ⟨v, h1, h2.mono kk⟩
  · have hp : p ∈ ς.m.eraseIdx j := hp
    have hpm := List.mem_of_mem_eraseIdx hp
    obtain ⟨b1, b2, b3⟩ := S.m p hpm
    have ne : p.1 ≠ o := by
      intro z
      rw [List.mem_eraseIdx_iff_getElem?] at hp
      obtain ⟨i2, n2, e2⟩ := hp
      exact n2 (nd_ix S.nd (x := o) (by rw [List.getElem?_map, e2]; simp [z]) (by rw [List.getElem?_map, e]; rfl))
    exact ⟨by rw [upd_ne ne]; exact b1, b2, b3.step kk fun _ _ q => q⟩
  · have : (ς.m.eraseIdx j).map (·.1) = (ς.m.map (·.1)).eraseIdx j := er_map _ _ _
    show ((ς.m.eraseIdx j).map (·.1)).Nodup
    rw [this]
    exact S.nd.sublist (List.eraseIdx_sublist _ _)
  · show (ς.δ.set i _).length = _
    rw [List.length_set]
    exact S.len
theorem ws_freeze {i j : Nat} {o : Addr} {ds : List D} {t : TS} (hf : c.fr = true) (e : ς.m[j]? = some (o, .lst ds)) (hi : ς.δ[i]? = some (some (.ref o))) (h : WS c t { ς with δ := ς.δ.set i (some (.lst ds)), m := ς.m.eraseIdx j } Ψ) : WS c t ς Ψ := fun σ k hh S E z => by
  obtain ⟨k', S', e'⟩ := S.freeze e hi hf
  exact h σ k' hh S' E (z.later e')
/-! ### attributes stored -/
def putN (f : Str) : List Str → List Str
  | [] => [f]
  | n :: ns => if n = f then n :: ns else n :: putN f ns
def putL (f : Str) (d : D) : List Str → List D → List D
  | [], _ => [d]
  | n :: ns, x :: xs => if n = f then d :: xs else x :: putL f d ns xs
  | _ :: _, [] => []
theorem put_names (f : Str) (v : V) : ∀ fs : List (Str × V), (putF f v fs).map (·.1) = putN f (fs.map (·.1))
  | [] => rfl
  | (n, w) :: fs => by
    show (putF f v ((n, w) :: fs)).map (·.1) = (if n = f then n :: fs.map (·.1) else n :: putN f (fs.map (·.1)))
    have e : putF f v ((n, w) :: fs) = if n = f then (n, v) :: fs else (n, w) :: putF f v fs := by
      first | rfl | (unfold putF; split <;> simp_all)
    rw [e]
    by_cases h : n = f
    · rw [if_pos h, if_pos h]; rfl
    · rw [if_neg h, if_neg h, List.map_cons, put_names f v fs]
theorem put_rep {K : PySem.W.Frag} {k : Hp} (f : Str) {v : V} {d : D} (r : Rep K k v d) : ∀ {fs : List (Str × V)} {ds : List D}, RepL K k (fs.map (·.2)) ds → RepL K k ((putF f v fs).map (·.2)) (putL f d (fs.map (·.1)) ds)
  | [], _, .nil => .cons r .nil
  | (n, w) :: fs, _, .cons r1 r2 => by
    have e : putF f v ((n, w) :: fs) = if n = f then (n, v) :: fs else (n, w) :: putF f v fs := by
      first | rfl | (unfold putF; split <;> simp_all)
    rw [e]
    show RepL K k _ (if n = f then _ :: _ else _ :: _)
    by_cases h : n = f
    · rw [if_pos h, if_pos h]; exact .cons r r2
    · rw [if_neg h, if_neg h]; exact .cons r1 (put_rep f r r2)
theorem ws_fld {j : Nat} {o C dx : Addr} {ns : List Str} {ds : List D} {to te : TE} {f : Str} (hI : ∀ b h h', c.fr = false → c.R.I b h → c.R.I b h' := by first | exact (fun _ _ _ z => nomatch z) | exact (fun _ _ _ _ z => z))
    (h : WE c te ς fun d ς1 => WE c to ς1 fun x ς2 => x = .ref o ∧ ς2.m[j]? = some (o, .ins C dx ns ds) ∧ Cls c.K C ∧ NoAttr c.K C f ∧ ns.length < 1000 ∧ Ψ.nx { ς2 with m := ς2.m.set j (o, .ins C dx (putN f ns) (putL f d ns ds)) }) :
    WS c (sFld c.K to te f) ς Ψ := fun σ k hh S E z =>
  h σ k hh S _ fun v k1 h1 d ς1 S1 e1 r1 q => q σ k1 h1 S1 _ fun x k2 h2 dd ς2 S2 e2 r2 ⟨ed, ej, hc, hn, hl, q2⟩ => by
    subst ed
    cases r2
    obtain ⟨a1, a2, fs, hv, en, rv⟩ := S2.at ej
    refine ⟨o, C, _, fs, rfl, hv, hc, hn, by rw [← en, List.length_map] at hl; exact hl, ?_⟩
    exact z.nx σ k2 _ _ (S2.put (mo' := .ins C dx (putN f ns) (putL f d ns ds)) ej hI ⟨putF f v fs, upd_same, by rw [put_names, en], by rw [← en]; exact put_rep f (r1.mono e2) rv⟩) (e1.trans e2) q2
/-! ### x += e -/
theorem ws_aug {i : Nat} {te : TE} {a : Int} {g : Int → Int → Int} (e : ς.δ[i]? = some (some (.int a))) (h : WE c te ς fun d ς1 => ∃ b, d = .int b ∧ Ψ.nx { ς1 with δ := ς1.δ.set i (some (.int (g a b))) } ∧ i < ς1.δ.length) : WS c (tAug i te (ipI g)) ς Ψ := fun σ k hh S E z => by
  obtain ⟨v, hv, r⟩ := S.s i _ e
  cases r
  refine ⟨_, hv, h σ k hh S _ fun v k1 h1 d ς1 S1 e1 r1 ⟨b, ed, q, l⟩ => ?_⟩
  subst ed
  cases r1
  exact ⟨a, b, rfl, rfl, z.nx _ k1 h1 _ (S1.set (.int _) l) e1 q⟩
/-! ### slices -/
def WO (c : Cn) (t : TO) (ς : Sta) (Φ : Option Int → Sta → Prop) : Prop :=
  ∀ (σ : L2.St) (k h : Hp), SR c ς σ k h → ∀ Q : Option Int → Hp → Prop, (∀ o k' h' ς', SR c ς' σ k' h' → Same k k' → Φ o ς' → Q o h') → t σ h Q
theorem wo_none {Φ : Option Int → Sta → Prop} (q : Φ none ς) : WO c tNoPart ς Φ := fun σ k h S Q z => z none k h ς S (Same.refl _) q
theorem wo_some {Φ : Option Int → Sta → Prop} {te : TE} (h : WE c te ς fun d ς1 => ∃ i, d = .int i ∧ Φ (some i) ς1) : WO c (tPart te) ς Φ := fun σ k hh S Q z =>
  h σ k hh S _ fun v k1 h1 d ς1 S1 e1 r1 ⟨i, ed, q⟩ => by
    subst ed
    cases r1
    exact ⟨i, rfl, z _ k1 h1 ς1 S1 e1 q⟩
def cutD (l : List D) (lo hi : Option Int) : List D := (l.drop (HT.sIx l.length 0 lo)).take (HT.sIx l.length l.length hi - HT.sIx l.length 0 lo)
theorem RepL.cut {K : PySem.W.Frag} {k : Hp} {vs : List V} {ds : List D} (r : RepL K k vs ds) (lo hi : Option Int) : RepL K k (cutV vs lo hi) (cutD ds lo hi) := by
  unfold cutV cutD
  rw [r.length]
  exact (r.drop _).take _
def rSlK (K : PySem.W.Frag) : V → Option Int → Option Int → Hp → VK → Prop := fun x lo hi H Q => rSlL K x lo hi H Q ∨ rSlA K x lo hi H Q
theorem SlR.or {X : Cx} {r r' : V → Option Int → Option Int → Hp → VK → Prop} (h : SlR X r) (h' : SlR X r') : SlR X fun x lo hi H Q => r x lo hi H Q ∨ r' x lo hi H Q := by
  intro pins s σ H x v vl vu lo hi sl Q I rx hs pl pu q
  rcases q with q | q
  · exact h pins s σ H x v vl vu lo hi sl Q I rx hs pl pu q
  · exact h' pins s σ H x v vl vu lo hi sl Q I rx hs pl pu q
theorem sl_K {X : Cx} : SlR X (rSlK X.K) := SlR.or sl_list sl_tupA
theorem we_slL {te : TE} {tl th : TO} (h : WE c te ς fun d ς1 => WO c tl ς1 fun lo ς2 => WO c th ς2 fun hi ς3 => ∃ l, d = .lst l ∧ Φ (.lst (cutD l lo hi)) ς3) : WE c (tSl (rSlK c.K) te tl th) ς Φ := fun σ k hh S Q z =>
  h σ k hh S _ fun v k1 h1 d ς1 S1 e1 r1 q1 => q1 σ k1 h1 S1 _ fun lo k2 h2 ς2 S2 e2 q2 => q2 σ k2 h2 S2 _ fun hi k3 h3 ς3 S3 e3 ⟨l, ed, q⟩ => by
    subst ed
    cases r1 with
    | lst ek er =>
      refine .inl ⟨_, _, rfl, SqL.of (S3.kh _ _ ((e2.trans e3) _ _ ek)), fun p n => ?_⟩
      have g : ∀ {o}, NT o → Grow No k3 h3 (upd k3 p o) (upd h3 p o) := fun t => Grow.new S3.kh n t
      exact z _ _ _ _ ς3 (S3.grow (g (by nofun))) (((e1.trans e2).trans e3).trans (g (by nofun)).kk) (.lst upd_same ((er.cut lo hi).mono (((e2.trans e3).trans (g (by nofun)).kk)))) q
theorem we_slT {te : TE} {tl th : TO} (h : WE c te ς fun d ς1 => WO c tl ς1 fun lo ς2 => WO c th ς2 fun hi ς3 => ∃ l, d = .tup l ∧ Φ (.tup (cutD l lo hi)) ς3) : WE c (tSl (rSlK c.K) te tl th) ς Φ := fun σ k hh S Q z =>
  h σ k hh S _ fun v k1 h1 d ς1 S1 e1 r1 q1 => q1 σ k1 h1 S1 _ fun lo k2 h2 ς2 S2 e2 q2 => q2 σ k2 h2 S2 _ fun hi k3 h3 ς3 S3 e3 ⟨l, ed, q⟩ => by
    subst ed
    have r1' := r1
    cases r1 with
    | tup ek er =>
      refine .inr ⟨_, _, rfl, Same.sqt S3.kh (Same.sqt (e2.trans e3) ek), fun w => ?_, fun _ p n => ?_⟩
      · have ew : cutD l lo hi = l := by
          unfold cutD
          rw [er.length] at w
          rw [w.1, w.2, List.drop_zero, Nat.sub_zero, List.take_length]
        rw [ew] at q
        exact z _ k3 h3 _ ς3 S3 ((e1.trans e2).trans e3) (r1'.mono (e2.trans e3)) q
      · have g : ∀ {o}, NT o → Grow No k3 h3 (upd k3 p o) (upd h3 p o) := fun t => Grow.new S3.kh n t
        exact z _ _ _ _ ς3 (S3.grow (g (by nofun))) (((e1.trans e2).trans e3).trans (g (by nofun)).kk) (.tup (.inl (.inl upd_same)) ((er.cut lo hi).mono (((e2.trans e3).trans (g (by nofun)).kk)))) q
/-! ### what is walked -/
theorem wi_list {te : TE} {Φ : List D → Sta → Prop} (h : WE c te ς fun d ς1 => ∃ l, d = .lst l ∧ Φ l ς1) : WI c (iList c.K te) ς Φ := fun σ k hh S R z =>
  h σ k hh S _ fun v k1 h1 d ς1 S1 e1 r1 ⟨l, ed, q⟩ => by
    subst ed
    cases r1 with
    | lst ek er =>
      rename_i a vs
      refine ⟨a, rfl, ⟨_, SqL.of (S1.kh _ _ ek)⟩, z _ k1 h1 l ς1 S1 e1 ⟨fun i h hi ⟨e, _⟩ => ?_, fun h ⟨e, _⟩ => ⟨vs, SqL.of (e _ _ ek), by rw [er.length]; exact Nat.le_refl _⟩, fun i h x h' d ed y kc e1 ⟨e2, _⟩ => ?_⟩ q⟩
      · have hv : i < vs.length := by rw [er.length]; exact hi
        exact ⟨vs, vs[i], SqL.of (e _ _ ek), by simp [hv]⟩
      · obtain ⟨rfl, y⟩ := y
        obtain ⟨u, hu, ru⟩ := er.get ed
        have := y vs (SqL.of (e2 _ _ (e1 _ _ ek)))
        rw [hu] at this
        cases this
        exact ⟨kc, Grow.refl e2, ru.mono e1⟩
theorem wi_tup {te : TE} {Φ : List D → Sta → Prop} (h : WE c te ς fun d ς1 => ∃ l, d = .tup l ∧ Φ l ς1) : WI c (iTup c.K te) ς Φ := fun σ k hh S R z =>
  h σ k hh S _ fun v k1 h1 d ς1 S1 e1 r1 ⟨l, ed, q⟩ => by
    subst ed
    cases r1 with
    | tup ek er =>
      rename_i a vs
      refine ⟨a, rfl, ⟨_, Same.sqt S1.kh ek⟩, z _ k1 h1 l ς1 S1 e1 ⟨fun i h hi ⟨e, _⟩ => ?_, fun h ⟨e, _⟩ => ⟨vs, Same.sqt e ek, by rw [er.length]; exact Nat.le_refl _⟩, fun i h x h' d ed y kc e1 ⟨e2, _⟩ => ?_⟩ q⟩
      · have hv : i < vs.length := by rw [er.length]; exact hi
        exact ⟨vs, vs[i], Same.sqt e ek, by simp [hv]⟩
      · obtain ⟨rfl, y⟩ := y
        obtain ⟨u, hu, ru⟩ := er.get ed
        have := y vs (Same.sqt e2 (Same.sqt e1 ek))
        rw [hu] at this
        cases this
        exact ⟨kc, Grow.refl e2, ru.mono e1⟩
def rngD (lo : Int) (n : Nat) : List D := (List.range n).map fun i : Nat => D.int (lo + (i : Int))
theorem rngD_len (lo : Int) (n : Nat) : (rngD lo n).length = n := by unfold rngD; rw [List.length_map, List.length_range]
theorem rngD_get {lo : Int} {n i : Nat} {d : D} (h : (rngD lo n)[i]? = some d) : d = .int (lo + (i : Int)) ∧ i < n := by
  unfold rngD at h
  rw [List.getElem?_map] at h
  by_cases hi : i < n
  · rw [List.getElem?_range hi] at h
    cases h
    exact ⟨rfl, hi⟩
  · rw [List.getElem?_eq_none (by rw [List.length_range]; omega)] at h
    cases h
theorem walk_rng {c : Cn} {k : Hp} (lo : Int) (n : Nat) : WalkD c (Itr lo n) k (rngD lo n) :=
  ⟨fun i h hi _ => by rw [rngD_len] at hi; exact hi, fun h _ => by rw [rngD_len]; exact Nat.le_refl _, fun i h x h' d ed y kc e1 ⟨e2, _⟩ => by
    obtain ⟨rfl, rfl⟩ := y
    obtain ⟨rfl, _⟩ := rngD_get ed
    exact ⟨kc, Grow.refl e2, .int _⟩⟩
theorem wi_rng1 {ta : TA} {Φ : List D → Sta → Prop} (h : WL c ta ς fun ds ς1 => ∃ j : Int, ds = [.int j] ∧ -(2 ^ 62) ≤ j ∧ j < 2 ^ 62 ∧ Φ (rngD 0 j.toNat) ς1) : WI c (iRng1 ta) ς Φ := fun σ k hh S R z =>
  h σ k hh S _ fun vs k1 h1 ds ς1 S1 e1 r1 ⟨j, ed, a, b, q⟩ => by
    subst ed
    cases r1 with
    | cons r1 r2 =>
      cases r1; cases r2
      exact ⟨j, rfl, a, b, z _ k1 h1 _ ς1 S1 e1 (walk_rng 0 _) q⟩
theorem wi_rng2 {ta : TA} {Φ : List D → Sta → Prop} (h : WL c ta ς fun ds ς1 => ∃ i j : Int, ds = [.int i, .int j] ∧ (-(2 ^ 62) ≤ i ∧ i < 2 ^ 62 ∧ -(2 ^ 62) ≤ j ∧ j < 2 ^ 62) ∧ Φ (rngD i (j - i).toNat) ς1) : WI c (iRng2 ta) ς Φ := fun σ k hh S R z =>
  h σ k hh S _ fun vs k1 h1 ds ς1 S1 e1 r1 ⟨i, j, ed, a, q⟩ => by
    subst ed
    cases r1 with
    | cons r1 r2 => cases r2 with
      | cons r2 r3 =>
        cases r1; cases r2; cases r3
        exact ⟨i, j, rfl, a, z _ k1 h1 _ ς1 S1 e1 (walk_rng i _) q⟩
def enumD (l : List D) : List D := l.mapIdx fun i d => .tup [.int (i : Nat), d]
theorem enumD_get {l : List D} {i : Nat} {d : D} (h : (enumD l)[i]? = some d) : ∃ x, l[i]? = some x ∧ d = .tup [.int (i : Nat), x] := by
  unfold enumD at h
  rw [List.getElem?_mapIdx] at h
  cases e : l[i]? with
  | none => rw [e] at h; cases h
  | some x => rw [e] at h; cases h; exact ⟨x, rfl, rfl⟩
theorem wi_enum {ta : TA} {Φ : List D → Sta → Prop} (h : WL c ta ς fun ds ς1 => ∃ l, ds = [.lst l] ∧ Φ (enumD l) ς1) : WI c (iEnum c.K ta) ς Φ := fun σ k hh S R z =>
  h σ k hh S _ fun vs k1 h1 ds ς1 S1 e1 r1 ⟨l, ed, q⟩ => by
    subst ed
    cases r1 with
    | cons r1 r2 =>
      cases r2
      cases r1 with
      | lst ek er =>
        rename_i a vs
        refine ⟨a, vs, rfl, SqL.of (S1.kh _ _ ek), z _ k1 h1 _ ς1 S1 e1 ⟨fun i h hi ⟨e, _⟩ => ?_, fun h ⟨e, _⟩ => ⟨vs, SqL.of (e _ _ ek), ?_⟩, fun i h x h' d ed y kc e1 ⟨e2, _⟩ => ?_⟩ q⟩
        · have hv : i < vs.length := by rw [er.length]; unfold enumD at hi; rw [List.length_mapIdx] at hi; exact hi
          exact ⟨vs, vs[i], SqL.of (e _ _ ek), by simp [hv]⟩
        · unfold enumD
          rw [List.length_mapIdx, er.length]
          exact Nat.le_refl _
        · obtain ⟨T, u, rfl, nT, rfl, y⟩ := y
          obtain ⟨x, hx, rfl⟩ := enumD_get ed
          obtain ⟨u', hu, ru⟩ := er.get hx
          have := y vs (SqL.of (e2 _ _ (e1 _ _ ek)))
          rw [hu] at this
          cases this
          have g : Grow No kc h (upd kc T (.tup [.int (i : Nat), u])) (upd h T (.tup [.int (i : Nat), u])) := Grow.new e2 nT (by nofun)
          exact ⟨_, g, .tup (.inl (.inl upd_same)) (.cons (.int _) (.cons (ru.mono (e1.trans g.kk)) .nil))⟩
def zipD (l m : List D) : List D := (l.zip m).map fun p => .tup [p.1, p.2]
theorem zipD_get {l m : List D} {i : Nat} {d : D} (h : (zipD l m)[i]? = some d) : ∃ x y, l[i]? = some x ∧ m[i]? = some y ∧ d = .tup [x, y] := by
  unfold zipD at h
  rw [List.getElem?_map] at h
  cases e : (l.zip m)[i]? with
  | none => rw [e] at h; cases h
  | some p =>
    rw [e] at h
    cases h
    obtain ⟨h1, h2⟩ := List.getElem?_zip_eq_some.mp e
    exact ⟨_, _, h1, h2, rfl⟩
theorem wi_zip {ta : TA} {Φ : List D → Sta → Prop} (h : WL c ta ς fun ds ς1 => ∃ l m, ds = [.lst l, .lst m] ∧ Φ (zipD l m) ς1) : WI c (RZ.iZipA c.K ta) ς Φ := fun σ k hh S R z =>
  h σ k hh S _ fun vs k1 h1 ds ς1 S1 e1 r1 ⟨l, m, ed, q⟩ => by
    subst ed
    cases r1 with
    | cons r1 r2 => cases r2 with
      | cons r2 r3 =>
        cases r3
        cases r1 with
        | lst ek er => cases r2 with
          | lst ek2 er2 =>
            rename_i a vs a2 vs2
            refine ⟨_, _, _, _, rfl, .inl ⟨SqL.of (S1.kh _ _ ek), SqL.of (S1.kh _ _ ek2), z _ k1 h1 _ ς1 S1 e1 ⟨fun i h hi ⟨e, _⟩ => ?_, fun h ⟨e, _⟩ => ⟨_, _, SqL.of (e _ _ ek), SqL.of (e _ _ ek2), ?_⟩, fun i h x h' d ed y kc e1 ⟨e2, _⟩ => ?_⟩ q⟩⟩
            · unfold zipD at hi
              rw [List.length_map, List.length_zip, ← er.length, ← er2.length] at hi
              refine ⟨_, _, _, _, SqL.of (e _ _ ek), SqL.of (e _ _ ek2), List.getElem?_eq_getElem (by omega), List.getElem?_eq_getElem (by omega)⟩
            · unfold zipD
              rw [List.length_map, List.length_zip, ← er.length, ← er2.length]
              omega
            · obtain ⟨T, u, u2, rfl, nT, rfl, y1, y2⟩ := y
              obtain ⟨x, x2, hx, hx2, rfl⟩ := zipD_get ed
              obtain ⟨u', hu, ru⟩ := er.get hx
              obtain ⟨u2', hu2, ru2⟩ := er2.get hx2
              have t1 := y1 _ (SqL.of (e2 _ _ (e1 _ _ ek)))
              have t2 := y2 _ (SqL.of (e2 _ _ (e1 _ _ ek2)))
              rw [hu] at t1
              rw [hu2] at t2
              cases t1
              cases t2
              have g : Grow No kc h (upd kc T (.tup [u, u2])) (upd h T (.tup [u, u2])) := Grow.new e2 nT (by nofun)
              exact ⟨_, g, .tup (.inl (.inl upd_same)) (.cons (ru.mono (e1.trans g.kk)) (.cons (ru2.mono (e1.trans g.kk)) .nil))⟩
theorem wi_zipT {ta : TA} {Φ : List D → Sta → Prop} (h : WL c ta ς fun ds ς1 => ∃ l m, ds = [.tup l, .tup m] ∧ Φ (zipD l m) ς1) : WI c (RZ.iZipA c.K ta) ς Φ := fun σ k hh S R z =>
  h σ k hh S _ fun vs k1 h1 ds ς1 S1 e1 r1 ⟨l, m, ed, q⟩ => by
    subst ed
    cases r1 with
    | cons r1 r2 => cases r2 with
      | cons r2 r3 =>
        cases r3
        cases r1 with
        | tup ek er => cases r2 with
          | tup ek2 er2 =>
            refine ⟨_, _, _, _, rfl, .inr ⟨Same.sqt S1.kh ek, Same.sqt S1.kh ek2, z _ k1 h1 _ ς1 S1 e1 ⟨fun i h hi ⟨e, _⟩ => ?_, fun h ⟨e, _⟩ => ⟨_, _, Same.sqt e ek, Same.sqt e ek2, ?_⟩, fun i h x h' d ed y kc e1 ⟨e2, _⟩ => ?_⟩ q⟩⟩
            · unfold zipD at hi
              rw [List.length_map, List.length_zip, ← er.length, ← er2.length] at hi
              refine ⟨_, _, _, _, Same.sqt e ek, Same.sqt e ek2, List.getElem?_eq_getElem (by omega), List.getElem?_eq_getElem (by omega)⟩
            · unfold zipD
              rw [List.length_map, List.length_zip, ← er.length, ← er2.length]
              omega
            · obtain ⟨T, u, u2, rfl, nT, rfl, y1, y2⟩ := y
              obtain ⟨x, x2, hx, hx2, rfl⟩ := zipD_get ed
              obtain ⟨u', hu, ru⟩ := er.get hx
              obtain ⟨u2', hu2, ru2⟩ := er2.get hx2
              have t1 := y1 _ (Same.sqt e2 (Same.sqt e1 ek))
              have t2 := y2 _ (Same.sqt e2 (Same.sqt e1 ek2))
              rw [hu] at t1
              rw [hu2] at t2
              cases t1
              cases t2
              have g : Grow No kc h (upd kc T (.tup [u, u2])) (upd h T (.tup [u, u2])) := Grow.new e2 nT (by nofun)
              exact ⟨_, g, .tup (.inl (.inl upd_same)) (.cons (ru.mono (e1.trans g.kk)) (.cons (ru2.mono (e1.trans g.kk)) .nil))⟩
end
end DL

set_option Elab.async false
set_option linter.all false
set_option maxRecDepth 100000
set_option maxHeartbeats 2000000
namespace DL
open PySem PySem.Spec PyProof.Rows L2

/-! ### a def of the module, with its promise -/
structure CalX (P : Program) (w : World) (K : PySem.W.Frag) (mg : Str → Option Value) (base : Heap) (k : Nat) (x : Str) (sp : Sp) : Prop where
  ex : ∃ (f : Addr) (fd : FuncData) (ps : List Str), FnOk P w K mg base (L2.CX P w) k f fd ps sp ∧ mg x = some (.ref f) ∧ PySem.W.keepIn K (.ref f) = true ∧ Binds K fd ps []
/-- an own class, with its __init__'s promise -/
structure MakX (P : Program) (w : World) (K : PySem.W.Frag) (mg : Str → Option Value) (base : Heap) (k : Nat) (x : Str) (C : Addr) (sp : Sp) : Prop where
  ex : ∃ (f : Addr) (fd : FuncData) (ps : List Str), Mk K C f ∧ FnOk P w K mg base (L2.CX P w) k f fd ps sp ∧ mg x = some (.ref C) ∧ Binds K fd ps []
/-- a method of an own class -/
structure MetX (P : Program) (w : World) (K : PySem.W.Frag) (mg : Str → Option Value) (base : Heap) (k : Nat) (C : Addr) (m : Str) (sp : Sp) : Prop where
  ex : ∃ (f : Addr) (fd : FuncData) (ps : List Str), Cls K C ∧ Meth K C m f ∧ FnOk P w K mg base (L2.CX P w) k f fd ps sp ∧ Binds K fd ps []
section
variable {X : Cx} {E : XK} {x m : Str} {C : Addr} {k j : Nat} {sp : Sp} {e o : Expr} {es : List Expr} {t : TA} {to : TE} {p apos pos : Pos}
theorem pe_cx (c : CalX X.prog X.w X.K X.mg X.base k x sp) (hr : Room j X.A) (hk : k ≤ j) (hg : Gl X x) (hx : Passes (L2.CX X.prog X.w) X E) (ha : PA X (e :: es) t)
    (hdb : (x == ("__debug__" : Str)) = false := by decide) (hs : starEach (e :: es) X.env = (false, eval e X.env) :: starEach es X.env := by rfl) (hpl : (backTo pos (starEach es X.env)).any (·.1) = false := by rfl) :
    PE X (.Call (.Name x p) (e :: es) [] pos) (tCall sp [] E t) := by
  obtain ⟨f, fd, ps, F, hm, hk2, hb⟩ := c.ex
  exact pe_call F (hr.mono hk) hg hm hk2 hb .nil hx ha hdb hs hpl
theorem pe_cx0 (c : CalX X.prog X.w X.K X.mg X.base k x sp) (hr : Room j X.A) (hk : k ≤ j) (hg : Gl X x) (hx : Passes (L2.CX X.prog X.w) X E)
    (hdb : (x == ("__debug__" : Str)) = false := by decide) : PE X (.Call (.Name x p) [] [] pos) (tCall sp [] E tNil) := by
  obtain ⟨f, fd, ps, F, hm, hk2, hb⟩ := c.ex
  exact pe_call0 F (hr.mono hk) hg hm hk2 hb .nil hx hdb
end

/-! ### the stream of draws -/
/-- at a: the cells' list (at l), what is left of a great one, how many were drawn (b at most), what the lesser ones mix -/
def StrmAt (a l : Addr) (b : Nat) (h : Hp) : Prop := ∃ (cells : List Int) (x n m : Int), h a = some (.lst [.ref l, .int x, .int n, .int m]) ∧ h l = some (.lst (cells.map V.int)) ∧ 0 ≤ n ∧ n ≤ b ∧ 0 ≤ m ∧ m < 2147483647
def strm (a l : Addr) : Res where
  W := fun z => z = a ∨ z = l
  I := fun b h => a ≠ l ∧ StrmAt a l b h
  st := fun b h h' k => by
    rintro ⟨n, cells, x, y, m, h1, h2, h3⟩
    exact ⟨n, cells, x, y, m, k _ _ (.inl (.inl rfl)) h1, k _ _ (.inl (.inr rfl)) h2, h3⟩
end DL

set_option Elab.async false
set_option linter.all false
set_option maxRecDepth 100000
set_option maxHeartbeats 2000000
namespace DL
open PySem PySem.Spec PyProof.Rows L2
/-! ### isinstance -/
def tyN : D → Option String
  | .non => some "NoneType"
  | .bl _ => some "bool"
  | .int _ => some "int"
  | .str _ => some "str"
  | .lst _ => some "list"
  | .tup _ => some "tuple"
  | .dct _ _ => some "dict"
  | _ => none
theorem Rep.tyX {K : PySem.W.Frag} {k h : Hp} {v : V} {d : D} {s : String} (e : Same k h) (r : Rep K k v d) (q : tyN d = some s) : TyX K h v (.type s) := by
  cases r with
  | non => cases q; exact .base .non
  | bl b => cases q; exact .base (.bl b)
  | int i => cases q; exact .base (.int i)
  | str x => cases q; exact .base (.str x)
  | lst ek _ => cases q; exact .base (.lst (e _ _ ek))
  | tup ek _ =>
    cases q
    rcases ek with (ek | ⟨o, ek⟩) | ⟨o, its, n, hk, hc, _⟩
    · exact .base (.tup (e _ _ ek))
    · exact .fTuple (e _ _ ek)
    · exact .kTuple hk hc
  | dct ek _ _ => cases q; exact .base (.dK (e _ _ ek))
  | obj _ _ _ => cases q
  | ty _ => cases q
  | ref _ => cases q
  | exc _ _ _ => cases q
/-- is a thing of the type a one of the type b (built-in types) -/
def isB : String → String → Bool
  | "bool", "int" => true
  | a, b => a == b
abbrev Knd (a : String) : Prop := a = "NoneType" ∨ a = "bool" ∨ a = "int" ∨ a = "str" ∨ a = "list" ∨ a = "tuple" ∨ a = "dict"
theorem kitB_is : ∀ {a b : String}, Knd a → Knd b → kitB a b = some (isB a b) := by
  intro a b ha hb
  rcases ha with rfl | rfl | rfl | rfl | rfl | rfl | rfl <;> rcases hb with rfl | rfl | rfl | rfl | rfl | rfl | rfl <;> decide +kernel
theorem tyN_knd {d : D} {s : String} (h : tyN d = some s) : Knd s := by
  cases d <;> cases h <;> simp [Knd]
section
variable {c : Cn} {ς : Sta} {Φ : D → Sta → Prop} {K : PySem.W.Frag} {Φ' : D → Prop}
theorem rc_isi {d : D} {n s : String} (hs : tyN d = some s) (hn : Knd n) (q : Φ' (.bl (isB s n))) : RC K (rIsi K) [d, .ty n] Φ' := fun k h vs e r Q z => by
  cases r with
  | cons r1 r2 => cases r2 with
    | cons r2 r3 =>
      cases r2; cases r3
      exact ⟨_, _, _, _, _, rfl, .ty n, r1.tyX e hs, kit_ty (kitB_is (tyN_knd hs) hn), z _ k h _ (Grow.refl e) (.bl _) q⟩
theorem kitAny_tys {K : PySem.W.Frag} {s : String} (hs : Knd s) : ∀ {ns : List String}, (∀ n ∈ ns, Knd n) → PySem.W.kitAny K (.type s) (ns.map Value.type) = some (ns.any fun n => isB s n)
  | [], _ => rfl
  | n :: ns, h => by
    rw [List.map_cons, List.any_cons]
    refine kitAny_cons (kit_ty (kitB_is hs (h n List.mem_cons_self))) (fun e => ?_) fun e => by rw [e]; rfl
    rw [e, Bool.false_or]
    exact kitAny_tys hs fun m hm => h m (List.mem_cons_of_mem _ hm)
def tTys : List String → TA
  | [] => tNil
  | n :: ns => tCons (tC (.ty n)) (tTys ns)
theorem tTys_go {σ : L2.St} {h : Hp} {Q : List V → Hp → Prop} : ∀ {ns : List String}, Q (ns.map V.ty) h → tTys ns σ h Q
  | [], q => q
  | n :: ns, q => tTys_go (ns := ns) (Q := fun xs H2 => Q (.ty n :: xs) H2) q
theorem clsV_tys : ∀ {ns : List String}, Paired ClsV (ns.map V.ty) (ns.map Value.type)
  | [] => .nil
  | n :: ns => .cons (.ty n) clsV_tys
/-- isinstance(x, (T1, T2, ..)) -/
theorem we_isiT {ns : List String} {te : TE} (hn : ∀ n ∈ ns, Knd n) (hl : ns.length ≤ 100) (h : WE c te ς fun d ς1 => ∃ s, tyN d = some s ∧ Φ (.bl (ns.any fun n => isB s n)) ς1) :
    WE c (tCB (rIsiT c.K) (tCons te (tCons (tTup (tTys ns)) tNil))) ς Φ := fun σ k hh S Q z =>
  h σ k hh S _ fun v k1 h1 d ς1 S1 e1 r1 ⟨s, hs, q⟩ => by
    refine tTys_go (h := h1) ⟨by rw [List.length_map, sizeLine_eq]; omega, fun p n => ?_⟩
    have g : Grow No k1 h1 k1 (upd h1 p (.tup (ns.map V.ty))) := Grow.newU S1.kh n
    refine ⟨v, p, _, _, _, _, rfl, upd_same, clsV_tys, r1.tyX (g.kh) hs, kitAny_tys (tyN_knd hs) hn, z _ k1 _ _ ς1 (S1.grow g) e1 (.bl _) q⟩
end
end DL

set_option Elab.async false
set_option linter.all false
set_option maxRecDepth 100000
set_option maxHeartbeats 2000000
namespace DL
open PySem PySem.Spec PyProof.Rows L2
/-! ### a list or a tuple walked -/
def iSeq (K : PySem.W.Frag) (te : TE) : TI := fun σ H R => iList K te σ H R ∨ iTup K te σ H R
theorem pi_seq {X : Cx} {tg l : Expr} {te : TE} (h : PE X l te) : PI X tg l (iSeq X.K te) := ⟨fun pins s σ H R I q => by
  rcases q with q | q
  · exact (pi_list h).run pins s σ H R I q
  · exact (pi_tup h).run pins s σ H R I q⟩
section
variable {c : Cn} {ς : Sta} {Φ : List D → Sta → Prop} {Φe : D → Sta → Prop} {Ψ : Psi}
theorem wi_seqL {te : TE} (h : WE c te ς fun d ς1 => ∃ l, d = .lst l ∧ Φ l ς1) : WI c (iSeq c.K te) ς Φ := fun σ k hh S R z => .inl (wi_list h σ k hh S R z)
theorem wi_seqT {te : TE} (h : WE c te ς fun d ς1 => ∃ l, d = .tup l ∧ Φ l ς1) : WI c (iSeq c.K te) ς Φ := fun σ k hh S R z => .inr (wi_tup h σ k hh S R z)
theorem we_revL {te : TE} (h : WE c te ς fun d ς1 => ∃ l, d = .lst l ∧ Φe (.lst l.reverse) ς1) : WE c (tRevL c.K te) ς Φe := fun σ k hh S Q z =>
  h σ k hh S _ fun v k1 h1 d ς1 S1 e1 r1 ⟨l, ed, q⟩ => by
    subst ed
    cases r1 with
    | lst ek er =>
      refine ⟨_, _, rfl, SqL.of (S1.kh _ _ ek), fun p n => ?_⟩
      have g : ∀ {o}, NT o → Grow No k1 h1 (upd k1 p o) (upd h1 p o) := fun t => Grow.new S1.kh n t
      exact z _ _ _ _ ς1 (S1.grow (g (by nofun))) (e1.trans (g (by nofun)).kk) (.lst upd_same (er.reverse.mono (g (by nofun)).kk)) q
theorem we_chain {r r' : R2} {ta tb tc : TE} (h : WE c ta ς fun d1 ς1 => WE c tb ς1 fun d2 ς2 => RD c.K r d1 d2 fun x => ∃ b, x = .bl b ∧ (b = false → Φe (.bl false) ς2) ∧ (b = true → WE c tc ς2 fun d3 ς3 => RD c.K r' d2 d3 fun y => Φe y ς3)) :
    WE c (tChain r r' ta tb tc) ς Φe := fun σ k hh S Q z =>
  h σ k hh S _ fun v1 k1 h1 d1 ς1 S1 e1 r1 q1 => q1 σ k1 h1 S1 _ fun v2 k2 h2 d2 ς2 S2 e2 r2 q2 => q2 k2 h2 v1 v2 S2.kh (r1.mono e2) r2 _ fun v k3 h3 d g rr ⟨b, eb, qf, qt⟩ => by
    subst eb
    cases rr
    have S3 := S2.grow g
    refine ⟨b, rfl, ?_⟩
    cases b with
    | false => exact iteF (z _ k3 h3 _ ς2 S3 ((e1.trans e2).trans g.kk) (.bl _) (qf rfl))
    | true => exact iteT (qt rfl σ k3 h3 S3 _ fun v4 k4 h4 d4 ς4 S4 e4 r4 q4 => q4 k4 h4 v2 v4 S4.kh (r2.mono (g.kk.trans e4)) r4 Q fun v5 k5 h5 d5 g5 r5 q5 => z v5 k5 h5 d5 ς4 (S4.grow g5) ((((e1.trans e2).trans g.kk).trans e4).trans g5.kk) r5 q5)
theorem pe_tyn {X : Cx} {x : Str} {n : String} {pos : Pos} (hg : Gl X x) (hm : X.mg x = none) (hv : bootBuiltins x = some (.type n)) (hn : x ≠ "__name__" := by decide) (hd : (x == ("__debug__" : Str)) = false := by decide) : PE X (.Name x pos) (tC (.ty n)) :=
  pe_bltn hg hm hv rfl hn hd
/-! ### known numbers of the module -/
theorem wt_val {t : TE} {Φ : Bool → Sta → Prop} (h : WE c t ς fun d ς1 => ∃ b, d = .bl b ∧ Φ b ς1) : WT c (tB t) ς Φ := wt_B h
end
end DL

set_option Elab.async false
set_option linter.all false
set_option maxRecDepth 100000
set_option maxHeartbeats 2000000
namespace DL
open PySem PySem.Spec PyProof.Rows L2
theorem br {p q : Prop} {b : Bool} (h1 : b = true → p) (h2 : b = false → q) : (b = true → p) ∧ (b = false → q) := ⟨h1, h2⟩
theorem brT {p q : Prop} (h1 : p) : (true = true → p) ∧ (true = false → q) := ⟨fun _ => h1, fun z => (nomatch z)⟩
theorem brF {p q : Prop} (h1 : q) : (false = true → p) ∧ (false = false → q) := ⟨fun z => (nomatch z), fun _ => h1⟩
theorem brT' {p q : Prop} (h1 : p) : (true = false → q) ∧ (true = true → p) := ⟨fun z => (nomatch z), fun _ => h1⟩
theorem brF' {p q : Prop} (h1 : q) : (false = false → q) ∧ (false = true → p) := ⟨fun _ => h1, fun z => (nomatch z)⟩
theorem brD {p q c : Prop} [Decidable c] (h1 : c → p) (h2 : ¬ c → q) : (decide c = true → p) ∧ (decide c = false → q) := ⟨fun z => h1 (of_decide_eq_true z), fun z => h2 (of_decide_eq_false z)⟩
theorem brD' {p q c : Prop} [Decidable c] (h1 : c → p) (h2 : ¬ c → q) : (decide c = false → q) ∧ (decide c = true → p) := ⟨fun z => h2 (of_decide_eq_false z), fun z => h1 (of_decide_eq_true z)⟩
theorem brN {p q c : Prop} [Decidable c] (h1 : ¬ c → p) (h2 : c → q) : ((!decide c) = true → p) ∧ ((!decide c) = false → q) := ⟨fun z => h1 (of_decide_eq_false (by simpa using z)), fun z => h2 (of_decide_eq_true (by simpa using z))⟩
theorem brN' {p q c : Prop} [Decidable c] (h1 : ¬ c → p) (h2 : c → q) : ((!decide c) = false → q) ∧ ((!decide c) = true → p) := ⟨fun z => h2 (of_decide_eq_true (by simpa using z)), fun z => h1 (of_decide_eq_false (by simpa using z))⟩
/-- the steps that need no counsel -/
local macro_rules | `(tactic| walk_at "s1") => `(tactic| with_reducible first
  | refine ws_seq ?_ | refine ws_next ?_ | refine ws_ret ?_ | refine ws_retN ?_ | refine ws_if ?_ | refine ws_asg ?_ | refine ws_drop ?_ | refine ws_par ?_ | refine ws_break ?_ | refine ws_cont ?_
  | refine we_var rfl ?_ | refine we_int ?_ | refine we_non ?_ | refine we_bl ?_ | refine we_str ?_ | refine we_ty ?_ | refine we_op ?_ | refine we_un ?_
  | refine we_and ?_ | refine we_or ?_ | refine we_not ?_ | refine we_if ?_ | refine we_chain ?_ | refine we_cb ?_ | refine we_tup ?_ | refine we_lst ?_
  | refine wl_cons ?_ | refine wl_nil ?_ | refine wt_B ?_ | refine wt_test ?_ | refine wt_and ?_ | refine wt_or ?_ | refine wt_not ?_ | refine wt_yes ?_
  | refine wg_name (by decide) ?_ | refine wg_tup rfl ?_ | refine wgs_cons ?_ | refine wgs_nil ?_
  | refine rd_add_int ?_ | refine rd_sub ?_ | refine rd_lt ?_ | refine rd_le ?_ | refine rd_gt ?_ | refine rd_ge ?_ | refine rd_eq_int ?_ | refine rd_ne_int ?_ | refine rd_eq_str ?_ | refine rd_ne_str ?_ | refine rd_eq_bl ?_ | refine rd_ne_bl ?_ | refine rd_is ?_ | refine rd_isnot ?_ | refine ru_neg ?_
  | refine rc_int ?_ | refine rc_abs ?_
  | refine brT ?_ | refine brF ?_ | refine brT' ?_ | refine brF' ?_
  | refine ⟨_, rfl, ?_⟩)
end DL

set_option Elab.async false
set_option linter.all false
set_option maxRecDepth 100000
set_option maxHeartbeats 4000000
/-! own exceptions whose __init__ says super().__init__(a text) and then stores its parameters -/
namespace DX
open PySem PySem.W PySem.Calls PyProof.Rows PySem.HandSPX
/-- self.f1 = f1; self.f2 = f2; .. -/
inductive Asg : List Stmt → List Str → Prop
  | nil : Asg [] []
  | cons {q1 q2 q3 q4 : Pos} {f : Str} {sts : List Stmt} {fs : List Str} (r : Asg sts fs) : Asg (.Assign [.Attribute (.Name "self" q1) f q2] (.Name f q3) q4 :: sts) (f :: fs)
end DX
namespace DX
open PySem PySem.W PySem.Calls PyProof.Rows PySem.HandSPX
/-- the shape of such an __init__ -/
structure Shape (params : Arguments) (body : List Stmt) (scope : Scope) (fs : List Str) : Prop where
  body : ∃ (p0 p1 p2 p3 p4 p5 : Pos) (m : Str) (j : Nat) (rest : List Stmt), body = .Expr (.Call (.Attribute (.Call (.Name "super" p0) [] [] p1) "__init__" p2) [.Constant (.str m) j p5] [] p3) p4 :: rest ∧ Asg rest fs ∧ (p2.endLine == p3.line) = true
  kind : scope.kind = .function
  co : scope.isCoroutine = false
  gen : scope.isGenerator = false
  cell : ∀ x ∈ scope.names, x.2 ≠ .cell
  ks : scope.names.lookup ("super" : Str) = some .globalImplicit
  kc : scope.names.lookup ("__class__" : Str) = some .free
  ka : scope.names.lookup ("self" : Str) = some .local
  kf : ∀ f ∈ fs, scope.names.lookup f = some .local ∧ (f == ("__debug__" : Str)) = false
  arg : ∃ ar : Arg, (params.posonlyargs ++ params.args).head? = some ar ∧ ar.arg = ("self" : Str)
  nd : (("self" : Str) :: fs).Nodup
/-- what the written part says of the class x at C, its __init__ at fI -/
structure Txt (P : Program) (K : Frag) (mg : Str → Option Value) (x : Str) (C fI : Addr) (fs : List Str) : Prop where
  gC : mg x = some (.ref C)
  cls : ∃ nm q N bs bm sn sub ab col dd k0 k1 k2 k3 k5, K.lookup C = some (excClassObj nm q C N bs bm true sn sub ab col dd k0 k1 k2 k3 k5 "ValueError.__new__") ∧ refsVE bm = true
  sa : findIn K (.ref C) "__setattr__" = some (some (.builtin "object.__setattr__"))
  xf : L2.XfC K C
  noN : ∀ f ∈ fs, findIn K (.ref C) f = some none
  iC : findIn K (.ref C) "__init__" = some (some (.ref fI))
  tC : typeIn K (.ref fI) = some (.type "function")
  kC : keepIn K (.ref C) = true
  tyC : typeIn K (.ref C) = some (.type "type")
  veC : subIn K (.ref C) (.type "ValueError") = some true
  te : exmOne K (.ref C) (.ref C) = some true
  sup : ks_superIn K C C "__init__" = some (some (.builtin "ValueError.__init__"))
  hsub : mroIn K C (.ref C) = some true
  hsuper : nsIn K mainGlobals "super" = some none
  any : nsIn K cStatics "thirdparty.any" = some none
  top : (P.main.scope.names.lookup ("super" : Str)).isSome = false
  fn : ∃ (oc ccl cl doc pm ct : Value) (od an cdd cld : Option Addr) (osl ccs csl : Array (Option Value)) (cda cc : Addr) (qual : Str) (params : Arguments) (body : List Stmt) (scope : Scope) (vs : Array Value) (file : Str) (tf : Tok),
    K.lookup fI = some ⟨oc, od, .func (ksFn "__init__" qual params body scope .none .none doc pm an (.ref cda) ct cc), osl⟩ ∧ codeIn K (.ref cda) qual = true ∧ Shape params body scope fs ∧
    (∀ (s : Shared) (us : List Value), us.length = fs.length + 1 → BindsTo s (ksFn "__init__" qual params body scope .none .none doc pm an (.ref cda) ct cc) ⟨us, []⟩ ((("self" : Str) :: fs).zip us)) ∧
    K.lookup cda = some ⟨ccl, cdd, .fields vs, ccs⟩ ∧ vs[2]? = some (.str file tf) ∧ ((P.main.file : Str) == file) = true ∧ K.lookup cc = some ⟨cl, cld, .cell (some (.ref C)), csl⟩

def mapOf : List (Str × Value) → Str → Option Value
  | [] => fun _ => none
  | (f, v) :: r => fun y => if y = f then some v else mapOf r y
theorem mapOf_within : ∀ r : List (Str × Value), Within (mapOf r) (r.map (·.1))
  | [], _, h => absurd rfl h
  | (f, v) :: r, y, h => by
    by_cases e : y = f
    · subst e; exact List.mem_cons_self
    · exact List.mem_cons_of_mem _ (mapOf_within r y (by unfold mapOf at h; rw [if_neg e] at h; exact h))
/-- an exception at x, its fields so far -/
structure At (h₀ h : Heap) (x C L : Addr) (r : List (Str × Value)) (od : Option Addr) : Prop where
  keep : ∀ b o, b ≠ x → h₀.get? b = some o → h.get? b = some o
  obj : ∃ t1 : Addr, h.get? x = some { cls := .ref C, dict := od, data := .fields #[.ref t1, .none, .none, .none, .bool false, .none] }
  dict : match od with
    | none => r = []
    | some dx => h₀.objs.size ≤ dx ∧ L < dx ∧ dx ≠ x ∧ h.Ns1 dx (mapOf r) ∧ r ≠ []
section
variable {prog : Program} {w : World} {A : Around} {E : Value → Shared → Prop} {K : Frag} {mg : Str → Option Value} {C fI x L : Addr} {h₀ : Heap} {m : Str → Option Value} {env : Env}
theorem asg_run {P : Flow → Shared → Prop} {g : Array GenState} {d : Drawn} {os : OsState} {cd : ClassData} (hcl : clsIn K C = some cd) (hm : refsVE cd.mro = true) (hh : cd.hasDict = true) (sa : findIn K (.ref C) "__setattr__" = some (some (.builtin "object.__setattr__")))
    (hk : env.scope.kind = .function) (hL : env.locals = L) (hL0 : h₀.objs.size ≤ L) (hxL : L ≠ x) (hself : m "self" = some (.ref x)) (hks : env.kindOf "self" = some .local) (hnx : ∀ o, K.lookup x ≠ some o) : ∀ {rest : List Stmt} {fs : List Str}, Asg rest fs →
    ∀ (h : Heap) (tk : Nat) (r : List (Str × Value)) (od : Option Addr), (∀ f ∈ fs, findIn K (.ref C) f = some none ∧ env.kindOf f = some .local ∧ (f == ("__debug__" : Str)) = false ∧ ∃ v, m f = some v) →
      K.In h₀ → h.Ns L m → At h₀ h x C L r od → r.length + fs.length ≤ 900 → (∀ h' tk' od', At h₀ h' x C L ((fs.map fun f => (f, (m f).getD .none)).reverse ++ r) od' → P .next ⟨h', g, d, tk', os⟩) →
      wpAny (model prog w) A (execs rest env) P E ⟨h, g, d, tk, os⟩ := by
  intro rest fs ha
  induction ha with
  | nil => intro h tk r od _ _ _ a _ q; exact wpAny_execs_nil (q h tk od a)
  | @cons q1 q2 q3 q4 f sts fs hr ih =>
    intro h tk r od hf X hn a hl q
    obtain ⟨f1, f2, f3, v, f4⟩ := hf f List.mem_cons_self
    have Xh : K.In h := fun b o e => a.keep b o (fun z => hnx o (by rw [← z]; exact e)) (X b o e)
    refine wpAny_execs_cons (plainObj_wpAny_Assign_Attribute ?_ (by rfl))
    refine wpAny_Name (wpAny_loadName_local hk f2 (by rw [hL]; exact hn) f4 ?_) f3
    refine wpAny_Name (wpAny_loadName_local hk hks (by rw [hL]; exact hn) hself ?_) (by decide)
    obtain ⟨t1, ho⟩ := a.obj
    have tail : ∀ h' tk' od', At h₀ h' x C L ((f, v) :: r) od' → h'.Ns L m → wpAny (model prog w) A (execs sts env) P E ⟨h', g, d, tk', os⟩ := fun h' tk' od' a' hn' => by
      refine ih h' tk' ((f, v) :: r) od' (fun f' hf' => hf f' (List.mem_cons_of_mem _ hf')) X hn' a' (by simp only [List.length_cons] at hl ⊢; omega) fun h2 tk2 od2 a2 => q h2 tk2 od2 ?_
      rw [List.map_cons, List.reverse_cons, List.append_assoc, f4]
      exact a2
    cases od with
    | none =>
      have er : r = [] := a.dict
      subst er
      refine set_plain Xh (ox := { cls := .ref C, dict := none, data := .fields #[.ref t1, .none, .none, .none, .bool false, .none] }) (od := none) ⟨ho, rfl, rfl, trivial⟩ sa ?_
      refine exc_osa Xh ho hcl hm hh f1 (fun h' tk' dx k dn dne hx hns => ?_)
      refine tail h' _ (some dx) ⟨fun b o hb e => k b o hb (a.keep b o hb e), ⟨t1, hx⟩, ?_⟩ ?_
      · refine ⟨?_, Nat.lt_of_lt_of_le hn.lt dn, dne, ?_, by simp⟩
        · exact Nat.le_trans hL0 (Nat.le_trans (Nat.le_of_lt hn.lt) dn)
        · have e : mapOf [(f, v)] = fun y => if y = f then some v else none := by funext y; rfl
          rw [e]; exact hns
      · obtain ⟨o, es, ep, e1, e2⟩ := hn
        exact ⟨o, es, ep, k _ _ hxL e1, e2⟩
    | some dx =>
      obtain ⟨d1, d2, d3, d4, d5⟩ := a.dict
      obtain ⟨oD, _, _, hoD, _, _⟩ := d4.count (mapOf_within r)
      refine set_plain Xh (ox := { cls := .ref C, dict := some dx, data := .fields #[.ref t1, .none, .none, .none, .bool false, .none] }) (od := some oD) ⟨ho, rfl, rfl, hoD⟩ sa ?_
      refine PySem.OEX.osa_old Xh ho d4 (mapOf_within r) (by rw [List.length_map]; omega) hcl hm hh f1 (fun h' tk' k hns => ?_)
      refine tail h' _ (some dx) ⟨fun b o hb e => k b o ?_ (a.keep b o hb e), ⟨t1, k _ _ d3.symm ho⟩, d1, d2, d3, ?_, by simp⟩ ?_
      · exact Nat.ne_of_lt (Nat.lt_of_lt_of_le (Heap.lt_size e) d1)
      · have e : mapOf ((f, v) :: r) = fun y => if y = f then some v else mapOf r y := by funext y; rfl
        rw [e]; exact hns
      · obtain ⟨o, es, ep, e1, e2⟩ := hn
        exact ⟨o, es, ep, k _ _ (Nat.ne_of_lt d2) e1, e2⟩
end
end DX

set_option Elab.async false
set_option linter.all false
set_option maxRecDepth 100000
set_option maxHeartbeats 4000000
namespace DX
open PySem PySem.W PySem.Calls PyProof.Rows PySem.HandSPX
section
variable {prog : Program} {w : World} {A : Around} {E : Value → Shared → Prop} {R : Result → Shared → Prop} {K : Frag} {mg mb : Str → Option Value} {x₀ : Str} {C fI x t0 : Addr} {fs : List Str}
theorem lookup_rev_zip : ∀ {ns : List Str} {vs : List Value} {n : Str} {v : Value}, ns.Nodup → (n, v) ∈ ns.zip vs → (ns.zip vs).reverse.lookup n = some v := fun {ns vs n v} nd h => by
  have key : ∀ {l : List (Str × Value)}, (l.map (·.1)).Nodup → (n, v) ∈ l → l.lookup n = some v := by
    intro l
    induction l with
    | nil => intro _ h; simp at h
    | cons p l ih =>
      intro nd h
      obtain ⟨n', v'⟩ := p
      rw [List.map_cons, List.nodup_cons] at nd
      rcases List.mem_cons.mp h with e | h
      · cases e
        simp [List.lookup]
      · have ne : n ≠ n' := fun e => nd.1 (by rw [← e]; exact List.mem_map_of_mem (f := (·.1)) h)
        have q : (n == n') = false := by simpa using ne
        simp only [List.lookup, q]
        exact ih nd.2 h
  refine key ?_ (List.mem_reverse.mpr h)
  rw [List.map_reverse]
  have e : (ns.zip vs).map (·.1) = ns.take vs.length := by
    clear h key
    induction ns generalizing vs with
    | nil => simp
    | cons a ns ih => cases vs with
      | nil => simp
      | cons b vs => simp [ih (List.nodup_cons.mp nd).2]
  rw [e]
  exact (List.reverse_perm _).nodup_iff.mpr (nd.sublist (List.take_sublist _ _))
theorem sup_init {h : Heap} {g : Array GenState} {d : Drawn} {tk : Nat} {os : OsState} {vs : List Value} (T : Txt prog K mg x₀ C fI fs) (X : K.In h) (hlim : h.NoLimit) (hng : h.Ns mainGlobals mg) (hnb : h.Ns builtinsNs mb) (hbb : ∀ y : Str, y ≠ "__name__" → mb y = bootBuiltins y)
    (hx : h.get? x = some (excO C t0)) (hnx : ∀ o, K.lookup x ≠ some o) (hroom : A.depth < recursionLimit) (hv : vs.length = fs.length) (hfew : fs.length ≤ 800)
    (hq : ∀ h' tk' od', At h h' x C h.objs.size ((fs.zip vs).reverse) od' → R (.ok (.ret .none)) ⟨h', g, d, tk', os⟩) :
    codeAny (model prog w) A (.call (.ref fI) ⟨.ref x :: vs, []⟩) R ⟨h, g, d, tk, os⟩ := by
  obtain ⟨oc, ccl, cl, doc, pm, ct, od, an, cdd, cld, osl, ccs, csl, cda, cc, qual, params, body, scope, vv, file, tf, hf, hcd, S, hb, hcode, hvs, hfile, hcell⟩ := T.fn
  obtain ⟨nm, q, N, bs, bm, sn, sub, ab, col, dd, k0, k1, k2, k3, k5, hC, hbm⟩ := T.cls
  have hcl : clsIn K C = some { name := nm, bases := bs, mro := .ref C :: bm, ns := N, qualname := q, hasDict := true, slotNames := sn, subclasses := sub, abstract := ab, collection := col, hasDel := false } := by unfold clsIn; rw [hC] <;> rfl
  obtain ⟨ar, har, ear⟩ := S.arg
  have hlen : ((("self" : Str) :: fs).zip (Value.ref x :: vs)).length = fs.length + 1 := by simp [hv]
  have inx : ∀ f ∈ fs, ∃ v, (f, v) ∈ (("self" : Str) :: fs).zip (Value.ref x :: vs) := fun f hf => by
    obtain ⟨i, hi, e⟩ := List.mem_iff_getElem.mp hf
    refine ⟨vs[i], List.mem_iff_getElem.mpr ⟨i + 1, by simp [hv]; omega, ?_⟩⟩
    simp [e]
  refine ks_codeAny_call_defAt (fd := ksFn "__init__" qual params body scope .none .none doc pm an (.ref cda) ct cc) (body := body) (binds := (("self" : Str) :: fs).zip (.ref x :: vs)) hroom (X _ _ hf) rfl hlim (codeRec_of X hcd) rfl
    (hb _ _ (by simp [hv])) S.cell (fun y hy => ?_) (fun h₁ hns hk₁ => ?_) S.co S.gen S.kind
  · have z := (List.of_mem_zip hy).1
    rcases List.mem_cons.mp z with e | e
    · rw [e]; exact S.ka
    · exact (S.kf _ e).1
  have X₁ : K.In h₁ := fun b o e => hk₁ b o (X b o e)
  have hx₁ := hk₁ _ _ hx
  have hxL : h.objs.size ≠ x := Nat.ne_of_gt (Heap.lt_size hx)
  have hself : ((("self" : Str) :: fs).zip (Value.ref x :: vs)).reverse.lookup ("self" : Str) = some (Value.ref x) := lookup_rev_zip S.nd (by simp)
  obtain ⟨p0, p1, p2, p3, p4, p5, mm, jj, rest, rfl, hasg, hline⟩ := S.body
  show _root_.PySem.wpAt (model prog w) _ (.func _ (ksEnv qual scope h.objs.size fI (.ref cda) cc)) (execs _ (ksEnv qual scope h.objs.size fI (.ref cda) cc)) _ _ _
  have he : ∀ env : Env, eval (.Call (.Attribute (.Call (.Name "super" p0) [] [] p1) "__init__" p2) [.Constant (.str mm) jj p5] [] p3) env = (do
      let ov ← attributeBase (.Call (.Name "super" p0) [] [] p1) "__init__" env (eval (.Call (.Name "super" p0) [] [] p1) env)
      standAt p2.atName
      let (f, first) ← holding [ov] (getMethod ov "__init__" (do return (← importBound (.Call (.Name "super" p0) [] [] p1) env).getD true))
      callWith p3 f first (backTo p3 (starEach [Expr.Constant (.str mm) jj p5] env)) []) := fun env => by
    have hpos : ∀ o : Expr, methodCallPos true o env p2 p3 = pure p3 := fun o => by unfold methodCallPos; simp [hline]
    show (do
      let ov ← attributeBase (.Call (.Name "super" p0) [] [] p1) "__init__" env (eval (.Call (.Name "super" p0) [] [] p1) env)
      standAt p2.atName
      methodCall (.Call (.Name "super" p0) [] [] p1) "__init__" p2 p3 env ov 1 (backTo p3 (starEach [Expr.Constant (.str mm) jj p5] env)) []) = _
    refine bind_congr fun ov => bind_congr fun _ => ?_
    unfold methodCall
    refine bind_congr fun z => ?_
    obtain ⟨f, first⟩ := z
    show (do
      let callPos ← methodCallPos true _ env p2 p3
      callWith callPos f first _ _) = _
    rw [hpos]
    rfl
  refine ks_wpAt_execs_cons (ks_wpAt_Expr_any (ks_wpAt_MethodCall ?_ (he _)) (by unfold interactive; simp only [ksEnv]; rw [S.kind]; rfl) (by first | rfl | (unfold swapsWith; rfl)))
  have Cx : ∃ o, h₁.get? C = some o ∧ o.data = .cls { name := nm, bases := bs, mro := .ref C :: bm, ns := N, qualname := q, hasDict := true, slotNames := sn, subclasses := sub, abstract := ab, collection := col, hasDel := false } := ⟨_, X₁ _ _ hC, rfl⟩
  obtain ⟨oD, hD1, hD2⟩ := Cx
  have nsg : h₁.Ns mainGlobals mg := by
    obtain ⟨o, es, ep, e1, e2⟩ := hng
    exact ⟨o, es, ep, hk₁ _ _ e1, e2⟩
  have nsb : h₁.Ns builtinsNs mb := by
    obtain ⟨o, es, ep, e1, e2⟩ := hnb
    exact ⟨o, es, ep, hk₁ _ _ e1, e2⟩
  refine ks_wpAt_super_base (env := ksEnv qual scope h.objs.size fI (.ref cda) cc) S.ks S.kc (by decide) rfl (X₁ _ _ hf) rfl har rfl (X₁ _ _ hcode) rfl hvs hfile T.top ?_
  refine ks_loadName_global S.kind S.ks (loadGlobal_builtin (env := ksEnv qual scope h.objs.size fI (.ref cda) cc) nsg (mg_none_of X hng T.hsuper) nsb ((hbb _ (by decide +kernel)).trans (by first | boot_by_name | rfl | kernel_rfl)) ⟨rfl, ?_⟩)
  refine wpAny_loadName_free S.kind S.kc rfl ⟨_, X₁ _ _ hcell, rfl⟩ ?_
  rw [ear]
  refine wpAny_loadName_local S.kind S.ka hns hself ?_
  refine ks_wpAny_isType_cls hD1 hD2 ⟨rfl, ?_⟩
  refine ks_wpAny_call_super hD1 hD2 hx₁ rfl (fun c e => by cases e) (looks_mroIn X₁ T.hsub) (fun h₂ hso hk₂ => ?_)
  have X₂ : K.In h₂ := fun b o e => hk₂ b o (X₁ b o e)
  have hx₂ := hk₂ _ _ hx₁
  have I₂ : InstAt h₂ x (excO C t0) C none := ⟨hx₂, rfl, rfl, trivial⟩
  have hI : Looks (model prog w) h₂ (isInstance (.ref x) (.type "ValueError")) true := I₂.type.andThen (looks_subIn X₂ T.veC)
  have hsup : alongIn K "__init__" (((Value.ref C :: bm).dropWhile (· != .ref C)).drop 1) = some (some (.builtin "ValueError.__init__")) := by
    have z := T.sup
    unfold ks_superIn at z
    rw [hcl] at z
    exact z
  refine kxs_getMethod kxs_ValueError hso (looks_opaque X₂ T.any) (l₀ := .ref C :: bm) (fun A Q E s k q => wpAny_bind ((looks_clsIn X₂ hcl) A _ E s k (wpAny_pure q))) rfl X₂ hsup hI (ks_ne X₂ I₂ hcl) (by decide) ?_
  -- super().__init__ called with its text
  have hu : (h₂.push (kxs_mw "ValueError.__init__" x)).get? h₂.objs.size = some (kxs_mw "ValueError.__init__" x) := Heap.get?_push_size _ rfl
  have keep₃ : ∀ b o, h₂.get? b = some o → (h₂.push (kxs_mw "ValueError.__init__" x)).get? b = some o := fun b o e => Heap.get?_push_of_some _ e
  refine kxs_callWith (i := "ValueError.__init__") (x := x) rfl (evalArgs_plain (Calls.spliced_cons (Calls.Constant_str (k := jj) (pos := p5) (Calls.spliced_nil ⟨hu, ?_⟩))))
  have hx₃ := keep₃ _ _ hx₂
  have X₃ : K.In (h₂.push (kxs_mw "ValueError.__init__" x)) := fun b o e => keep₃ b o (X₂ b o e)
  refine wpAny_call (codeAny_of_tree ?_)
  show wpAny _ _ (callAny (.ref h₂.objs.size) ⟨_, []⟩) _ _ _
  simp only [callAny]
  refine wpAny_bind (wpAny_load hu ?_)
  simp only [kxs_mw, show (Value.type "method-wrapper" == Value.type "method" || Value.type "method-wrapper" == Value.type "builtin_function_or_method" || Value.type "method-wrapper" == Value.type "method-wrapper") = true by decide, if_true]
  refine KFB.if_so (by decide) ?_
  refine wpAny_bind (check_bound_init F.excBase_ValueError.toExcCallFacts (X₃ _ _ hC) hx₃ rfl ?_)
  refine wpAny_bind (wpAny_pure (wpAny_pure ?_))
  refine ⟨plainId_quiet F.excBase_ValueError.init.plain _, codeAny_builtin F.excBase_ValueError.initEntry ?_⟩
  refine exc_init_tree (cls := .ref C) (t0 := t0) (dv := none) (c2 := .none) (c3 := .none) (b4 := .bool false) hx₃ (by rw [sizeLine_eq]; show 1 ≤ _; omega) fun h₄ hk₄ hx₄ _ => ?_
  -- the fields
  have all : ∀ b o, b ≠ x → h.get? b = some o → h₄.get? b = some o := fun b o hb e => hk₄ b o hb (keep₃ b o (hk₂ b o (hk₁ b o e)))
  have hns₄ : h₄.Ns h.objs.size fun y => ((("self" : Str) :: fs).zip (Value.ref x :: vs)).reverse.lookup y := by
    obtain ⟨o, es, ep, e1, e2⟩ := hns
    exact ⟨o, es, ep, hk₄ _ _ hxL (keep₃ _ _ (hk₂ _ _ e1)), e2⟩
  refine wpAt_of_wpAny (asg_run (C := C) (x := x) (L := h.objs.size) (h₀ := h) (m := fun y => ((("self" : Str) :: fs).zip (Value.ref x :: vs)).reverse.lookup y) (env := ksEnv qual scope h.objs.size fI (.ref cda) cc) hcl (show refsVE (.ref C :: bm) = true from hbm) rfl T.sa S.kind rfl (Nat.le_refl _) hxL hself S.ka hnx hasg h₄ _ [] none
    (fun f hf => ⟨T.noN f hf, (S.kf f hf).1, (S.kf f hf).2, by obtain ⟨v, hv⟩ := inx f hf; exact ⟨v, lookup_rev_zip S.nd hv⟩⟩) X hns₄ ⟨all, ⟨_, hx₄⟩, rfl⟩ (by simp; omega) fun h' tk' od' a => ?_)
  refine hq h' tk' od' ?_
  have e : (fs.map fun f => (f, (((("self" : Str) :: fs).zip (Value.ref x :: vs)).reverse.lookup f).getD .none)) = fs.zip vs := by
    refine List.ext_getElem (by simp [hv]) fun i h1 h2 => ?_
    have hi : i < fs.length := by simpa using h1
    rw [List.getElem_map, List.getElem_zip, lookup_rev_zip (v := vs[i]) S.nd]
    · rfl
    · exact List.mem_iff_getElem.mpr ⟨i + 1, by simp [hv]; omega, by simp⟩
  rw [e, List.append_nil] at a
  exact a
end
end DX

set_option Elab.async false
set_option linter.all false
set_option maxRecDepth 100000
set_option maxHeartbeats 4000000
namespace DX
open PySem PySem.W PySem.Calls PyProof.Rows PySem.HandSPX
theorem mapOf_look : ∀ (r : List (Str × Value)) (y : Str), mapOf r y = r.lookup y
  | [], y => rfl
  | (f, v) :: r, y => by
    unfold mapOf
    by_cases e : y = f
    · subst e
      rw [if_pos rfl]
      simp [List.lookup]
    · rw [if_neg e]
      have q : (y == f) = false := by simpa using e
      simp only [List.lookup, q]
      exact mapOf_look r y
theorem lookup_none {α : Type} : ∀ {l : List (Str × α)} {n : Str}, n ∉ l.map (·.1) → l.lookup n = none
  | [], _, _ => rfl
  | (f, v) :: l, n, h => by
    rw [List.map_cons, List.mem_cons, not_or] at h
    have q : (n == f) = false := by simpa using h.1
    simp only [List.lookup, q]
    exact lookup_none h.2
/-- a made exception of the class -/
structure Made (h h' : Heap) (e C : Addr) (fs : List Str) (vs : List Value) (od : Option Addr) : Prop where
  keep : ∀ b o, h.get? b = some o → h'.get? b = some o
  new : h.objs.size ≤ e
  obj : ∃ oe ws, h'.get? e = some oe ∧ oe.cls = .ref C ∧ oe.dict = od ∧ oe.data = .fields ws ∧ ws[1]? = some .none
  dict : match od with
    | none => fs = []
    | some d => h.objs.size ≤ d ∧ d ≠ e ∧ h'.Ns1 d (mapOf (fs.zip vs).reverse) ∧ fs ≠ []
section
variable {prog : Program} {w : World} {A : Around} {R : Result → Shared → Prop} {K : Frag} {mg mb : Str → Option Value} {x₀ : Str} {C fI : Addr} {fs : List Str}
theorem sup_made {h : Heap} {g : Array GenState} {d : Drawn} {tk : Nat} {os : OsState} {vs : List Value} (T : Txt prog K mg x₀ C fI fs) (X : K.In h) (hlim : h.NoLimit) (hng : h.Ns mainGlobals mg) (hnb : h.Ns builtinsNs mb) (hbb : ∀ y : Str, y ≠ "__name__" → mb y = bootBuiltins y)
    (hroom : A.depth + 1 < recursionLimit) (hv : vs.length = fs.length) (hfew : fs.length ≤ 800)
    (hq : ∀ h' tk' e od, Made h h' e C fs vs od → R (.ok (.ret (.ref e))) ⟨h', g, d, tk', os⟩) :
    codeAny (model prog w) A (.call (.ref C) ⟨vs, []⟩) R ⟨h, g, d, tk, os⟩ := by
  obtain ⟨nm, q, N, bs, bm, sn, sub, ab, col, dd, k0, k1, k2, k3, k5, hC, hbm⟩ := T.cls
  have k : ∀ b o, h.get? b = some o → ((h.push (kdv_tup vs)).push (excO C h.objs.size)).get? b = some o := fun b o e => Heap.get?_push_of_some _ (Heap.get?_push_of_some _ e)
  have hget : ((h.push (kdv_tup vs)).push (excO C h.objs.size)).get? (h.objs.size + 1) = some (excO C h.objs.size) := by heap_get
  have hnx : ∀ o, K.lookup (h.objs.size + 1) ≠ some o := fun o e => by
    have z : h.get? (h.objs.size + 1) = some o := X _ _ e
    exact absurd (Nat.lt_of_succ_lt (Heap.lt_size z)) (Nat.lt_irrefl _)
  refine call_own F.excBase_ValueError (fun X => refsVE_contains X bm hbm) (X _ _ hC) (looks_findIn X T.iC) (fun self => bind_fn X self T.tC) (by rw [sizeLine_eq, hv]; omega) ?_
  refine sup_init (h := (h.push (kdv_tup vs)).push (excO C h.objs.size)) T (fun b o e => k b o (X b o e)) (hlim.keeps k) (hng.keeps k) (hnb.keeps k) hbb hget hnx ?_ hv hfew fun h' tk' od' a => ?_
  · show A.depth + 1 < recursionLimit
    exact hroom
  · have old : ∀ b o, h.get? b = some o → h'.get? b = some o := fun b o e => a.keep b o (Nat.ne_of_lt (Nat.lt_succ_of_lt (Heap.lt_size e))) (k b o e)
    have sz : ((h.push (kdv_tup vs)).push (excO C h.objs.size)).objs.size = h.objs.size + 1 + 1 := by rw [Heap.size_push, Heap.size_push]
    obtain ⟨t1, ho⟩ := a.obj
    refine ⟨rfl, hq h' tk' (h.objs.size + 1) od' ⟨old, Nat.le_succ _, ⟨_, _, ho, rfl, rfl, rfl, rfl⟩, ?_⟩⟩
    have z := a.dict
    cases od' with
    | none =>
      have z : (fs.zip vs).reverse = [] := z
      have z : fs.zip vs = [] := by simpa using z
      have zl : (fs.zip vs).length = 0 := by rw [z]; rfl
      rw [List.length_zip, hv, Nat.min_self] at zl
      exact List.length_eq_zero_iff.mp zl
    | some dx =>
      obtain ⟨z1, z2, z3, z4, z5⟩ := z
      rw [sz] at z1
      exact ⟨by omega, z3, z4, fun e => z5 (by rw [e]; rfl)⟩
end
end DX
namespace L2
open PySem PySem.Spec PyProof.Rows DX
theorem relO_zip : ∀ {fs : List Str} {vs : List V} {us : List Value}, Vals vs us → ∀ f, RelO ((fs.zip vs).lookup f) ((fs.zip us).lookup f)
  | [], _, _, _, _ => trivial
  | _ :: _, [], [], _, _ => trivial
  | n :: fs, v :: vs, u :: us, .cons r1 r2, f => by
    by_cases e : f = n
    · subst e
      simp only [List.zip_cons_cons, List.lookup, beq_self_eq_true]
      exact r1
    · have q : (f == n) = false := by simpa using e
      simp only [List.zip_cons_cons, List.lookup, q]
      exact relO_zip r2 f
theorem relO_rev {fs : List Str} {vs : List V} {us : List Value} (nd : fs.Nodup) (r : Vals vs us) (f : Str) : RelO ((fs.zip vs).lookup f) (DX.mapOf (fs.zip us).reverse f) := by
  have e : DX.mapOf (fs.zip us).reverse f = (fs.zip us).lookup f := by
    rw [DX.mapOf_look]
    cases h : (fs.zip us).lookup f with
    | some v =>
      exact lookup_rev_zip nd (PySem.mem_of_lookup h)
    | none =>
      refine lookup_none fun z => ?_
      rw [List.map_reverse, List.mem_reverse] at z
      have key : ∀ {l : List (Str × Value)}, f ∈ l.map (·.1) → l.lookup f ≠ none := by
        intro l
        induction l with
        | nil => intro z; simp at z
        | cons p l ih =>
          intro z
          obtain ⟨n, v⟩ := p
          by_cases e : f = n
          · subst e
            simp [List.lookup]
          · have q : (f == n) = false := by simpa using e
            simp only [List.lookup, q]
            rw [List.map_cons, List.mem_cons] at z
            exact ih (z.resolve_left e)
      exact key z h
  rw [e]
  exact relO_zip r f
section
variable {X : Cx} {C fI : Addr}
/-- what is wanted of a made exception -/
def XQ (C : Addr) (vs : List V) (Q : XK) (H1 : Hp) : List Str → Prop
  | [] => Q (.ref C) none H1
  | f :: fs => ∀ d, H1 d = none → Q (.ref C) (some d) (upd H1 d (.xd ((f :: fs).zip vs)))
/-- C(args) -/
def tXMk (C : Addr) (fs : List Str) (ta : TA) : St → Hp → XK → Prop := fun σ H Q => ta σ H fun vs H1 => vs.length = fs.length ∧ XQ C vs Q H1 fs
theorem made_mk {fs : List Str} {pins : List (Addr × Obj)} {σ : L2.St} {H1 : Hp} {Q : XK} {vs : List V} {us : List Value} {x : Str} {s1 : Shared} {k : Nat} (T : Txt X.prog X.K X.mg x C fI fs) (nd : fs.Nodup) (hfew : fs.length ≤ 800) (hr : Room k X.A) (I1 : Inv X pins σ H1 s1) (r1 : Vals vs us) (hl : vs.length = fs.length)
    (q1 : XQ C vs Q H1 fs) :
    wpAny (model X.prog X.w) X.A (call (.ref C) us) (MkP X pins σ Q) X.xe s1 := by
  have hlim := I1.nolimit
  have hgl := I1.ok.mod.glob.keeps I1.bk
  obtain ⟨mb, hb1, hb2⟩ := I1.ok.mod.blt
  have hbl := hb1.keeps I1.bk
  have KI := I1.kIn
  obtain ⟨hp, g, dr, tk, os⟩ := s1
  have hul : us.length = fs.length := by rw [← hl]; exact r1.length.symm
  refine wpAny_call (sup_made T KI hlim hgl hbl hb2 (by have := hr.dp; omega) hul hfew fun h' tk' e od M => ?_)
  show MkP X pins σ Q (.ref e) ⟨h', g, dr, tk', os⟩
  obtain ⟨oe, fv, hoe, hc, hd, hdat, h1⟩ := M.obj
  obtain ⟨G', g1, g2⟩ := restrict h' fun b => decide (b ≠ e)
  have gk : ∀ b, b ≠ e → G'.get? b = h'.get? b := fun b hb => g1 b (decide_eq_true hb)
  have ge : G'.get? e = none := g2 e (by simp)
  have old : ∀ b o, hp.get? b = some o → G'.get? b = some o := fun b o q => (gk b (Nat.ne_of_lt (Nat.lt_of_lt_of_le (Heap.lt_size q) M.new))).trans (M.keep b o q)
  have back : ∀ b o, G'.get? b = some o → h'.get? b = some o := fun b o q => by
    by_cases hb : b = e
    · rw [hb, ge] at q; cases q
    · exact (gk b hb).symm.trans q
  have rz : Raises X (.ref C) := raises_own T.xf.exC T.tyC
  have M4 := M.dict
  cases od with
  | none =>
    have M4 : fs = [] := M4
    subst M4
    have J : Inv X pins σ H1 ⟨G', g, dr, tk', os⟩ := I1.kept (t' := tk') old
    exact ⟨e, oe, fv, ⟨G', g, dr, tk', os⟩, _, .ref C, none, rfl, J, back, ge, hoe, ⟨hc, hd⟩, hdat, h1, I1.hok.fresh M.new, rfl, I1.bare, rz, q1⟩
  | some d =>
    obtain ⟨d1, d2, d3, d4⟩ := M4
    have q2 : ∀ d, H1 d = none → Q (.ref C) (some d) (upd H1 d (.xd (fs.zip vs))) := by
      cases fs with
      | nil => exact absurd rfl d4
      | cons f fs => exact q1
    have ob : ObjOk X.prog X.w (upd H1 d (.xd (fs.zip vs))) G' d (.xd (fs.zip vs)) :=
      ⟨_, d3.at (fun o q => (gk d d2).trans q), fun f => relO_rev nd r1 f⟩
    have J : Inv X pins σ (upd H1 d (.xd (fs.zip vs))) ⟨G', g, dr, tk', os⟩ := I1.laid (t' := tk') old d1 ob
    refine ⟨e, oe, fv, ⟨G', g, dr, tk', os⟩, _, .ref C, some d, rfl, J, back, ge, hoe, ⟨hc, hd⟩, hdat, h1, ?_, rfl, I1.bare, rz, q2 d (I1.hok.fresh d1)⟩
    rw [upd_ne (Ne.symm d2)]
    exact I1.hok.fresh M.new
theorem pmk_x {fs : List Str} {a : Expr} {es : List Expr} {ta : TA} {x : Str} {p pos : Pos} {k : Nat} (T : Txt X.prog X.K X.mg x C fI fs) (nd : fs.Nodup) (hfew : fs.length ≤ 800) (hr : Room k X.A) (ha : PA X (a :: es) ta) (hg : Gl X x := by rfl) (hdb : (x == ("__debug__" : Str)) = false := by decide)
    (he : starEach (a :: es) X.env = (false, eval a X.env) :: starEach es X.env := by rfl) (hpl : (backTo pos (starEach es X.env)).any (·.1) = false := by rfl) :
    PMk X (.Call (.Name x p) (a :: es) [] pos) (tXMk C fs ta) := by
  intro pins s σ H Q I h
  refine wpAny_Call_Name_kw (ld_glob I hg T.gC ?_ hdb)
  refine PySem.W.callWith_K (h₀ := X.base) I.ok.mod.kin T.kC (thn (ha.run pos pins s σ H _ I h) fun us s1 hh => ?_) he hpl
  obtain ⟨vs, H1, I1, r1, hl, q1⟩ := hh
  exact ⟨I1.kIn, made_mk T nd hfew hr I1 r1 hl q1⟩
theorem pmk_x0 {x : Str} {p pos : Pos} {k : Nat} (T : Txt X.prog X.K X.mg x C fI []) (hr : Room k X.A) (hg : Gl X x := by rfl) (hdb : (x == ("__debug__" : Str)) = false := by decide) :
    PMk X (.Call (.Name x p) [] [] pos) (tXMk C [] tNil) := by
  intro pins s σ H Q I h
  refine wpAny_Call_Name_kw (ld_glob I hg T.gC ?_ hdb)
  obtain ⟨hl, q1⟩ := h
  refine PySem.W.callWith_K0 I.kIn T.kC ?_
  exact made_mk (fs := []) (vs := []) (us := []) T List.nodup_nil (by decide) hr I .nil rfl q1
end
end L2

set_option Elab.async false
set_option linter.all false
set_option maxRecDepth 100000
set_option maxHeartbeats 4000000
/-! a try with several clauses, each with or without a name -/
namespace DX
open PySem PySem.Spec PyProof.Rows L2
/-- a clause: its class, its name's slot, its suite -/
abbrev HC := Value × Option Nat × (Addr → Value → Option Addr → TS)
/-- the ends behind a suite whose name goes -/
def gone (i : Nat) (D : Ends) : Ends := { nx := fun σ' H' => D.nx (σ'.set i none) H', rt := D.rt, bk := fun σ' H' => D.bk (σ'.set i none) H', ct := fun σ' H' => D.ct (σ'.set i none) H' }
def inSuite (D : Ends) (ts : Addr → Value → Option Addr → TS) (a : Addr) (cls : Value) (d : Option Addr) (σ : L2.St) (H : Hp) : Option Nat → Prop
  | none => ts a cls d D σ H
  | some i => ts a cls d (gone i D) (σ.set i (some (.ref a))) H
def wMix (K : PySem.W.Frag) (Wout : WX) (D : Ends) : List HC → WX
  | [] => Wout
  | (c, oi, ts) :: r => fun cls d σ H => ∃ b, PySem.W.exmOne K cls c = some b ∧ (b = true → ∀ a, H a = none → inSuite D ts a cls d σ H oi) ∧ (b = false → wMix K Wout D r cls d σ H)
inductive Hds (X : Cx) : List ExceptHandler → List HC → Prop
  | nil : Hds X [] []
  | plain {x : Str} {c : Value} {ts : Addr → Value → Option Addr → TS} {b₀ : Stmt} {suite : List Stmt} {np pos' : Pos} {hds : List ExceptHandler} {l : List HC} (hc : Names X x c)
      (hsu : ∀ (a : Addr) (oe : Obj) (cls : Value) (d : Option Addr) (pn : List (Addr × Obj)), Zc cls d oe → (∃ vs, oe.data = .fields vs) → PSs (X.suite a ((a, oe) :: pn)) (b₀ :: suite) (ts a cls d)) (r : Hds X hds l) :
      Hds X (.ExceptHandler (some (.Name x np)) none (b₀ :: suite) pos' :: hds) ((c, none, ts) :: l)
  | named {x n : Str} {i : Nat} {c : Value} {ts : Addr → Value → Option Addr → TS} {b₀ : Stmt} {suite : List Stmt} {np pos' : Pos} {hds : List ExceptHandler} {l : List HC} (hc : Names X x c) (hN : X.N.Nodup) (hi : X.N[i]? = some n) (hln : X.env.kindOf n = some .local)
      (hsu : ∀ (a : Addr) (oe : Obj) (cls : Value) (d : Option Addr) (pn : List (Addr × Obj)), Zc cls d oe → (∃ vs, oe.data = .fields vs) → PSs (X.suite a ((a, oe) :: pn)) (b₀ :: suite) (ts a cls d)) (r : Hds X hds l) :
      Hds X (.ExceptHandler (some (.Name x np)) (some n) (b₀ :: suite) pos' :: hds) ((c, some i, ts) :: l)
section
variable {X : Cx} {body : List Stmt} {h₀ : ExceptHandler} {hds : List ExceptHandler} {l : List HC} {pos : Pos} {tb : WX → TS} {Wout : WX}
theorem ps_try_mix (hs : X.stack = X.env :: X.outer) (hf : X.env.frame = some X.env.locals) (tk : Takes X Wout)
    (hb : ∀ (W : WX) (pn : List (Addr × Obj)) (xe : Value → Shared → Prop), Takes (X.tr pn xe) W → PassesOwn (model X.prog X.w) X.A X.env xe → PSs (X.tr pn xe) body (tb W))
    (hh : Hds X (h₀ :: hds) l) : PS X (.Try body (h₀ :: hds) [] [] pos) (fun D σ H => tb (wMix X.K Wout D l) D σ H) := by
  refine ⟨fun pins s σ H D I h => ?_⟩
  have ok := I.ok
  have hfr : X.A.frames = some (X.env :: X.outer) := by rw [ok.frames, hs]
  refine wpAny_Try_except ?_
  refine wpAny_mono ((hb (wMix X.K Wout D l) (X.pn ++ pins) (fun e s₁ => wpAny (model X.prog X.w) X.A (noteFrame e X.env) (fun _ s₂ => wpAny (model X.prog X.w) X.A (setFlight e none) (fun _ s₃ =>
    wpAny (model X.prog X.w) X.A (handleBy e X.env (h₀ :: hds)) (SP X pins D) X.xe s₃) X.xe s₂) X.xe s₁) (fun u s' xx => ?_) PassesOwn.looking).run [] s σ H D (I.toTry _) h) (fun f s1 hsp => ?_) (fun e s1 he => he)
  · obtain ⟨a, B, sI, pins', σ', H', cls, d, rfl, J', nb, up, sky, na, os, ag, w⟩ := xx
    have J : Inv X pins σ' H' sI := J'.ofTry ok
    have sky' : Sky B (X.env :: X.outer) a (Zc cls d) X.env.locals s'.heap := by rw [← hs]; exact sky
    show wpAny (model X.prog X.w) X.A (noteFrame (.ref a) X.env) _ _ _
    refine Sky.land Zc.steady hfr hf sky' fun h3 fl3 up3 => ?_
    have J3 : Inv X pins σ' H' { s' with heap := h3 } := J.landed nb fl3.1 (up.trans up3) os ag
    obtain ⟨oe3, vs3, he3, hz3, hd3⟩ := fl3.there
    have nfr : a ∉ frs (X.env :: X.outer) := fun hm => by
      obtain ⟨_, o', e', hnf⟩ := fl3.2.2.1.mem hm
      rw [he3] at e'; cases e'
      exact hnf _ hd3
    have nL : a ≠ X.env.locals := fun z => nfr (List.mem_filterMap.mpr ⟨X.env, List.mem_cons_self, by rw [hf, z]⟩)
    have nF : a ∉ X.fs := fun hm => by
      obtain ⟨e, he, q⟩ := List.mem_filterMap.mp hm
      exact nfr (List.mem_filterMap.mpr ⟨e, List.mem_cons_of_mem _ he, q⟩)
    have S3 := J3.suite he3 hd3 na nL nF
    have LT : PySem.W.Looks (model X.prog X.w) h3 (typeOf (.ref a)) cls := fun A Q E s k q => wpAny_typeOf_ref (k _ _ he3) (by rw [hz3.1]; exact q)
    -- a clause's class, looked up in the suite's context
    have test : ∀ {x : Str} {c : Value} {np : Pos} (_ : Names X x c) {Q : Value → Shared → Prop} {E : Value → Shared → Prop}, Q c { s' with heap := h3 } → wpAny (model X.prog X.w) (X.A.mark (some (.ref a))) (eval (.Name x np) X.env) Q E { s' with heap := h3 } := fun {x c np} hc {Q E} q => by
      obtain ⟨hg, hdbg, hm | ⟨hm, hv, hnn⟩⟩ := hc
      · exact ld_glob (X := X.suite a ((a, oe3) :: (X.pn ++ pins))) S3 hg hm q hdbg
      · exact ld_blt (X := X.suite a ((a, oe3) :: (X.pn ++ pins))) S3 hg hm hv q hnn hdbg
    have go : ∀ {hds' : List ExceptHandler} {l' : List HC}, Hds X hds' l' → wMix X.K Wout D l' cls d σ' H' →
        wpAny (model X.prog X.w) X.A (handleBy (.ref a) X.env hds') (SP X pins D) X.xe { s' with heap := h3 } := by
      intro hds' l' hk
      induction hk with
      | nil =>
        intro w
        refine wpAny_handleBy_nil ?_
        obtain ⟨k1, k2, k3, oe, vs, T, oT, ts', he, hz, hd, h1, hr⟩ := id fl3
        unfold PySem.passOn
        refine wpAny_bind (wpAny_field he hd h1 ?_)
        rw [if_neg (show ¬ ((Value.ref T == Value.none) = true) from by simp)]
        have fin : wpAny (model X.prog X.w) X.A (setFlight (.ref a) X.env.frame) (fun _ s4 => wpAny (model X.prog X.w) X.A (throw (.ref a) : Sem Flow) (SP X pins D) X.xe s4) X.xe { s' with heap := h3 } := by
          rw [hf]
          refine HandSPX.setFlight_upZ fl3 fun h4 hh4 up4 => wpAny_throw (tk _ _ ?_)
          exact ⟨a, B, sI, pins, σ', H', cls, d, rfl, J, nb, (up.trans up3).trans up4, .inr (.inr (by rw [hs]; exact hh4)), na, os, ag, w⟩
        first
          | exact wpAny_bind (wpAny_pure (wpAny_bind fin))
          | exact wpAny_bind fin
      | @plain x c ts b₀ suite np pos' hds2 l2 hc hsu r ih =>
        rintro ⟨b, hb1, hyes, hno⟩
        refine wpAny_handleBy_cons (codeAny_handlers_test ?_) (by intro q; cases q)
        refine test hc ((PySem.W.exm_one (M := model X.prog X.w) (J3.kIn) LT hb1).here ?_)
        cases b with
        | false => exact ih (hno rfl)
        | true =>
          refine codeAny_handlers_suite ?_
          refine HandSPX.lands_againZ fl3 fun h4 fl4 up4 => ?_
          have J4 : Inv X pins σ' H' { s' with heap := h4 } := J.landed nb fl4.1 ((up.trans up3).trans up4) os ag
          obtain ⟨oe4, vs4, he4, hz4, hd4⟩ := fl4.there
          refine wpAny_mono ((hsu a oe4 cls d (X.pn ++ pins) hz4 ⟨_, hd4⟩).run [] _ _ H' _ (J4.suite he4 hd4 na nL nF) (hyes rfl a na)) (fun f s6 hsp => ?_) (fun _ _ z => False.elim z)
          cases f with
          | next | brk | cont => obtain ⟨σ6, H6, S6, q6⟩ := hsp; exact ⟨_, _, S6.unsuite ok, q6⟩
          | ret u => obtain ⟨v6, σ6, H6, S6, r6, q6⟩ := hsp; exact ⟨_, _, _, S6.unsuite ok, r6, q6⟩
      | @named x n i c ts b₀ suite np pos' hds2 l2 hc hN hi hln hsu r ih =>
        rintro ⟨b, hb1, hyes, hno⟩
        refine wpAny_handleBy_cons (codeAny_handlers_test ?_) (by intro q; cases q)
        refine test hc ((PySem.W.exm_one (M := model X.prog X.w) (J3.kIn) LT hb1).here ?_)
        cases b with
        | false => exact ih (hno rfl)
        | true =>
          refine codeAny_handlers_suite_as ?_
          refine HandSPX.lands_againZ fl3 fun h4 fl4 up4 => ?_
          have J4 : Inv X pins σ' H' { s' with heap := h4 } := J.landed nb fl4.1 ((up.trans up3).trans up4) os ag
          obtain ⟨oe4, vs4, he4, hz4, hd4⟩ := fl4.there
          refine store_ok (X := X.suite a ((a, oe4) :: (X.pn ++ pins))) (v := .ref a) (J4.suite he4 hd4 na nL nF) hN hi (.inl hln) rfl (fun s5 S5 => ?_) (.inr hln)
          refine wpAny_mono ((hsu a oe4 cls d (X.pn ++ pins) hz4 ⟨_, hd4⟩).run [] s5 _ H' _ S5 (hyes rfl a na)) (fun f s6 hsp => ?_) (fun _ _ z => False.elim z)
          have end_ : ∀ {σ6 : L2.St} {H6 : Hp} {Q : Shared → Prop}, Inv (X.suite a ((a, oe4) :: (X.pn ++ pins))) [] σ6 H6 s6 → (∀ s7, Inv X pins (σ6.set i none) H6 s7 → Q s7) →
              wpAny (model X.prog X.w) X.A (do bindName X.env n .none; unbindBehindTheSuite X.env n pos') (fun _ s7 => Q s7) X.xe s6 := fun {σ6 H6 Q} S6 hq => gone_ok (S6.unsuite ok) hN hi hln hq
          cases f with
          | next | brk | cont => obtain ⟨σ6, H6, S6, q6⟩ := hsp; exact end_ S6 fun s7 J7 => ⟨_, _, J7, q6⟩
          | ret u => obtain ⟨v6, σ6, H6, S6, r6, q6⟩ := hsp; exact end_ S6 fun s7 J7 => ⟨_, _, _, J7, r6, q6⟩
    exact go hh w
  · cases f with
    | next => obtain ⟨σ', H', J', q⟩ := hsp; exact wpAny_execs_nil ⟨σ', H', J'.ofTry ok, q⟩
    | brk | cont => obtain ⟨σ', H', J', q⟩ := hsp; exact ⟨σ', H', J'.ofTry ok, q⟩
    | ret u => obtain ⟨v, σ', H', J', r, q⟩ := hsp; exact ⟨v, σ', H', J'.ofTry ok, r, q⟩
end
end DX

set_option Elab.async false
set_option linter.all false
set_option maxRecDepth 100000
set_option maxHeartbeats 4000000
namespace DL
open PySem PySem.Spec PyProof.Rows L2 DX

/-! ### raise, try, by data -/
abbrev XD := Addr → List Str → List D → Prop
section
variable {c : Cn} {ς : Sta} {Φ : D → Sta → Prop} {Ψ : Psi}
/-- what is raised in the def's own code is taken -/
def XOkW (c : Cn) (W : WX) (X : XT) : Prop := ∀ C ns fs dd ws σ k' h' ς', SR c ς' σ k' h' → XAt k' dd ns ws → RepL c.K k' ws fs → X C ns fs ς' → W (.ref C) dd σ h'
theorem xokW {E : XK} {X : XT} (h : XOk c E X) : XOkW c (fun cls d _ H => E cls d H) X := fun C ns fs dd ws σ k' h' ς' S a r x => h C ns fs dd ws σ k' h' ς' S a r x
/-- a def's exceptions -/
theorem xok_def {s : Spc} {K : PySem.W.Frag} {R : Res} {k0 H : Hp} {ds : List D} {b : Nat} {E : XK} (hE : ∀ C ns fs b' dd ws k' h', s.exc R ds b C ns fs b' → Grow R.W k0 H k' h' → R.I b' h' → XAt k' dd ns ws → RepL K k' ws fs → E (.ref C) dd h') :
    XOk ⟨K, R, k0, H, true, fun _ => none⟩ E fun C ns fs ς => s.exc R ds b C ns fs ς.b := fun C ns fs dd ws σ k' h' ς' S a r x => hE C ns fs ς'.b dd ws k' h' x S.g S.i a r
theorem xok_init {s : SpcI} {K : PySem.W.Frag} {o : Addr} {k0 H : Hp} {ds : List D} {E : XK} (hE : ∀ C' ns fs b' dd ws k' h', s.exc ds C' ns fs → Grow (initR o).W k0 H k' h' → (initR o).I b' h' → XAt k' dd ns ws → RepL K k' ws fs → E (.ref C') dd h') :
    XOk ⟨K, initR o, k0, H, false, fun _ => none⟩ E fun C ns fs ς => s.exc ds C ns fs := fun C ns fs dd ws σ k' h' ς' S a r x => hE C ns fs 0 dd ws k' h' x S.g trivial a r
theorem map_zip : ∀ {α β : Type} {l : List α} {m : List β}, m.length = l.length → (l.zip m).map (·.1) = l ∧ (l.zip m).map (·.2) = m
  | _, _, [], [], _ => ⟨rfl, rfl⟩
  | _, _, a :: l, b :: m, h => by
    obtain ⟨h1, h2⟩ := map_zip (l := l) (m := m) (by simpa using h)
    exact ⟨by rw [List.zip_cons_cons, List.map_cons, h1], by rw [List.zip_cons_cons, List.map_cons, h2]⟩
theorem ws_raise {W : WX} {X : XT} {C : Addr} {fs : List Str} {ta : TA} (hX : XOkW c W X) (h : WL c ta ς fun ds ς1 => ds.length = fs.length ∧ X C fs ds ς1) : WS c (fun _ σ H => tXMk C fs ta σ H fun cls d H' => W cls d σ H') ς Ψ := fun σ k hh S D z =>
  h σ k hh S _ fun vs k1 h1 ds ς1 S1 e1 r1 ⟨l, x⟩ => by
    refine ⟨by rw [r1.length, l], ?_⟩
    cases fs with
    | nil =>
      exact hX C [] ds none vs σ k1 h1 ς1 S1 rfl r1 x
    | cons f fs =>
      intro d hd
      have g : Grow No k1 h1 (upd k1 d (.xd ((f :: fs).zip vs))) (upd h1 d (.xd ((f :: fs).zip vs))) := Grow.new S1.kh hd (by nofun)
      exact hX C (f :: fs) ds (some d) vs σ _ _ ς1 (S1.grow g) ⟨d, rfl, upd_same⟩ (r1.mono g.kk) x
/-- a call in a try's body -/
theorem we_callT {n : Nat} {s : Spc} {W : WX} {ta : TA} {X : XT} (hE : XOkW c W X)
    (h : WL c ta ς fun ds ς1 => ds.length = n ∧ s.pre Res.none ds 0 ∧ (∀ d b, s.post Res.none ds 0 d b → Φ d ς1) ∧ ∀ C ns fs b, s.exc Res.none ds 0 C ns fs b → X C ns fs ς1) : WE c (tCallS (SpS c.K n s) (L2.WE W) ta) ς Φ := fun σ k hh S Q z =>
  h σ k hh S _ fun vs k1 h1 ds ς1 S1 e1 r1 ⟨l, p1, p2, p3⟩ => by
    refine ⟨by rw [r1.length, l], Res.none, k1, ds, 0, r1, S1.kh, trivial, fun a z => z.elim, p1, fun d b q v k' h' g _ r => ?_, fun C ns fs b q dd ws k' h' g _ e r => ?_⟩
    · exact z v k' h' d ς1 (S1.grow g) (e1.trans g.kk) r (p2 d b q)
    · exact hE C ns fs dd ws σ k' h' ς1 (S1.grow g) e r (p3 C ns fs b q)
/-- the exception's field -/
theorem we_xf {a dd C : Addr} {f : Str} {te : TE} (h : WE c te ς fun d ς1 => ∃ ns ds d', d = .exc a dd C ns ds ∧ lookD f ns ds = some d' ∧ Φ d' ς1) : WE c (tXf a (.ref C) (some dd) C f te) ς Φ := fun σ k hh S Q z =>
  h σ k hh S _ fun v k1 h1 d ς1 S1 e1 r1 ⟨ns, ds, d', ed, hl, q⟩ => by
    subst ed
    cases r1 with
    | exc ek en er =>
      obtain ⟨v', e2, r2⟩ := look_rep en er hl
      exact ⟨rfl, rfl, dd, _, v', rfl, S1.kh _ _ ek, e2, z v' k1 h1 d' ς1 S1 e1 r2 q⟩
/-- the state within a suite, the ends behind it -/
def putX (oi : Option Nat) (d : D) (ς : Sta) : Sta := match oi with
  | none => ς
  | some i => { ς with δ := ς.δ.set i (some d) }
def wipeX (oi : Option Nat) (ς : Sta) : Sta := match oi with
  | none => ς
  | some i => { ς with δ := ς.δ.set i none }
def goneP (oi : Option Nat) (Ψ : Psi) : Psi := { nx := fun ς => Ψ.nx (wipeX oi ς), rt := Ψ.rt, bk := fun ς => Ψ.bk (wipeX oi ς), ct := fun ς => Ψ.ct (wipeX oi ς) }
theorem SR.wipe1 {σ : L2.St} {k h : Hp} (S : SR c ς σ k h) (i : Nat) : SR c { ς with δ := ς.δ.set i none } (σ.set i none) k h := by
  refine ⟨S.g, S.i, S.w, fun j d q => ?_, S.m, S.nd, by rw [List.length_set, List.length_set]; exact S.len, S.kb⟩
  have q : (ς.δ.set i none)[j]? = some (some d) := q
  by_cases e : i = j
  · subst e
    rw [List.getElem?_set] at q
    simp only [if_true] at q
    split at q <;> cases q
  · rw [List.getElem?_set_ne e] at q
    obtain ⟨v, h1, h2⟩ := S.s j d q
    exact ⟨v, by rw [List.getElem?_set_ne e]; exact h1, h2⟩
theorem SR.put1 {σ : L2.St} {k h : Hp} {v : V} {d : D} (S : SR c ς σ k h) (i : Nat) (r : Rep c.K k v d) : SR c { ς with δ := ς.δ.set i (some d) } (σ.set i (some v)) k h := by
  refine ⟨S.g, S.i, S.w, fun j d' q => ?_, S.m, S.nd, by rw [List.length_set, List.length_set]; exact S.len, S.kb⟩
  have q : (ς.δ.set i (some d))[j]? = some (some d') := q
  by_cases e : i = j
  · subst e
    rw [List.getElem?_set] at q
    simp only [if_true] at q
    split at q
    · rename_i hl
      cases q
      exact ⟨v, by rw [List.getElem?_set]; simp only [if_true]; rw [if_pos (by rw [← S.len]; exact hl)], r⟩
    · cases q
  · rw [List.getElem?_set_ne e] at q
    obtain ⟨v', h1, h2⟩ := S.s j d' q
    exact ⟨v', by rw [List.getElem?_set_ne e]; exact h1, h2⟩
/-- the clauses take the exception -/
def HndOk (c : Cn) (Ψ : Psi) (Xo : XT) (C : Addr) (ns : List Str) (fs : List D) (ς : Sta) : List HC → Prop
  | [] => Xo C ns fs ς
  | (cv, oi, ts) :: r => ∃ b, PySem.W.exmOne c.K (.ref C) cv = some b ∧
      (b = true → (∀ a x, ns ≠ [] → WS c (ts a (.ref C) (some x)) (putX oi (.exc a x C ns fs) ς) (goneP oi Ψ)) ∧ (ns = [] → ∀ a, WS c (ts a (.ref C) none) (putX oi (.ref a) ς) (goneP oi Ψ))) ∧
      (b = false → HndOk c Ψ Xo C ns fs ς r)
/-- the same, where all that was known at k is known later -/
abbrev Cn.at (c : Cn) (kb : Hp) : Cn := { c with kb := kb }
theorem SR.into {σ : L2.St} {k h kb : Hp} (S : SR c ς σ k h) (e : Same kb k) : SR (c.at kb) ς σ k h := ⟨S.g, S.i, S.w, S.s, S.m, S.nd, S.len, e⟩
theorem SR.out {σ : L2.St} {k h kb : Hp} (S : SR (c.at kb) ς σ k h) (e : Same c.kb kb) : SR c ς σ k h := ⟨S.g, S.i, S.w, S.s, S.m, S.nd, S.len, e.trans S.kb⟩
/-- a clause's end, gone on behind the try -/
theorem end_at {kb : Hp} {E1 : Ends} (e0 : Same c.kb kb) (z : EndOk c kb Ψ E1) (oi : Option Nat) {σ : L2.St} {k h : Hp} {ς1 : Sta} {d : D} {v : V} {ts : TS} (S : SR (c.at kb) ς1 σ k h) (r : Rep c.K k v d) (w : WS (c.at kb) ts (putX oi d ς1) (goneP oi Ψ)) :
    ts (match oi with | none => E1 | some i => gone i E1) (match oi with | none => σ | some i => σ.set i (some v)) h := by
  cases oi with
  | none =>
    refine w σ k h S _ ⟨fun a b f s q p x => z.nx a b f s (q.out e0) q.kb x, fun a b f s q p x => z.bk a b f s (q.out e0) q.kb x, fun a b f s q p x => z.ct a b f s (q.out e0) q.kb x, fun v a b f g s q p r x => z.rt v a b f g s (q.out e0) q.kb r x⟩
  | some i =>
    refine w (σ.set i (some v)) k h (S.put1 i r) _ ⟨fun a b f s q p x => ?_, fun a b f s q p x => ?_, fun a b f s q p x => ?_, fun v a b f g s q p r x => z.rt v a b f g s (q.out e0) q.kb r x⟩
    · exact z.nx (a.set i none) b f (wipeX (some i) s) ((q.wipe1 i).out e0) q.kb x
    · exact z.bk (a.set i none) b f (wipeX (some i) s) ((q.wipe1 i).out e0) q.kb x
    · exact z.ct (a.set i none) b f (wipeX (some i) s) ((q.wipe1 i).out e0) q.kb x
theorem hnd_mix {kb : Hp} {E1 : Ends} {Wout : WX} {Xo : XT} (e0 : Same c.kb kb) (z : EndOk c kb Ψ E1) (ho : XOkW c Wout Xo) {σ : L2.St} {k h : Hp} {ς1 : Sta} {C : Addr} {ns : List Str} {fs : List D} {dd : Option Addr} {ws : List V} (S : SR (c.at kb) ς1 σ k h) (ha : XAt k dd ns ws) (hr : RepL c.K k ws fs) (hl : ws.length = ns.length) :
    ∀ {l : List HC}, HndOk (c.at kb) Ψ Xo C ns fs ς1 l → wMix c.K Wout E1 l (.ref C) dd σ h
  | [], w => ho C ns fs dd ws σ k h ς1 (S.out e0) ha hr w
  | (cv, oi, ts) :: r, ⟨b, e, hy, hn⟩ => by
    refine ⟨b, e, fun eb a _ => ?_, fun eb => hnd_mix e0 z ho S ha hr hl (hn eb)⟩
    obtain ⟨y1, y2⟩ := hy eb
    cases ns with
    | nil =>
      have ha : dd = none := ha
      subst ha
      have q := end_at e0 z oi S (.ref a) (y2 rfl a)
      cases oi with
      | none => exact q
      | some i => exact q
    | cons f ns =>
      obtain ⟨x, ex, hx⟩ := ha
      subst ex
      obtain ⟨m1, m2⟩ := map_zip (l := f :: ns) (m := ws) hl
      have q := end_at e0 z oi S (.exc hx m1 (by rw [m2]; exact hr)) (y1 a x (by simp))
      cases oi with
      | none => exact q
      | some i => exact q
theorem ws_try {tb : WX → TS} {l : List HC} {Wout : WX} {X Xo : XT} (ho : XOkW c Wout Xo) (hx : ∀ C ns fs ς1, X C ns fs ς1 → fs.length = ns.length)
    (h : ∀ kb, Same c.kb kb → (∀ C ns fs ς1, X C ns fs ς1 → HndOk (c.at kb) Ψ Xo C ns fs ς1 l) ∧ ∀ W, XOkW (c.at kb) W X → WS (c.at kb) (tb W) ς Ψ) : WS c (fun E1 σ H => tb (wMix c.K Wout E1 l) E1 σ H) ς Ψ := fun σ k hh S E1 z => by
  obtain ⟨h1, h2⟩ := h k S.kb
  refine h2 (wMix c.K Wout E1 l) (fun C ns fs dd ws σ' k' h' ς' S' a r x => hnd_mix S.kb z ho S' a r (by rw [r.length, hx C ns fs ς' x]) (h1 C ns fs ς' x)) σ k hh (S.into (Same.refl _)) E1 ?_
  exact ⟨fun a b f s q p x => z.nx a b f s (q.out S.kb) p x, fun a b f s q p x => z.bk a b f s (q.out S.kb) p x, fun a b f s q p x => z.ct a b f s (q.out S.kb) p x, fun v a b f g s q p r x => z.rt v a b f g s (q.out S.kb) p r x⟩
end
end DL

set_option Elab.async false
set_option linter.all false
set_option maxRecDepth 100000
set_option maxHeartbeats 4000000
namespace DX
open PySem PySem.Spec PyProof.Rows L2
/-! ### a lambda handed to a def that calls it within a try -/
def tTryL (K : PySem.W.Frag) (n : Nat) (l : List HC) (tBody : XK → TS) : TS := fun E1 σ H => ∃ Ech : XK, (∀ cls d (σ' : L2.St) H', Ech cls d H' → σ'.length = n → wMix K (fun _ _ _ _ => False) E1 l cls d σ' H') ∧ tBody Ech E1 σ H
theorem ps_tryL {X : Cx} {body : List Stmt} {h₀ : ExceptHandler} {hds : List ExceptHandler} {l : List HC} {pos : Pos} {tBody : XK → TS} (hs : X.stack = X.env :: X.outer) (hf : X.env.frame = some X.env.locals)
    (hb : ∀ (W : WX) (pn : List (Addr × Obj)) (xe : Value → Shared → Prop), Takes (X.tr pn xe) W → PassesOwn (model X.prog X.w) X.A X.env xe → ∀ Ech : XK, (∀ cls d σ' H', Ech cls d H' → W cls d σ' H') → PSs (X.tr pn xe) body (tBody Ech))
    (hh : Hds X (h₀ :: hds) l) : PS X (.Try body (h₀ :: hds) [] [] pos) (tTryL X.K X.N.length l tBody) := by
  refine ps_try_mix (Wout := fun _ _ _ _ => False) (tb := fun W E1 σ H => ∃ Ech : XK, (∀ cls d (σ' : L2.St) H', Ech cls d H' → σ'.length = X.N.length → W cls d σ' H') ∧ tBody Ech E1 σ H) hs hf LamX.takes0 (fun W pn xe tk po => ?_) hh
  refine ⟨fun pins s σ H D I h => ?_⟩
  obtain ⟨Ech, hW, h2⟩ := h
  refine (hb (fun cls d σ' H' => σ'.length = X.N.length → W cls d σ' H') pn xe (fun u s' ⟨a, B, sI, pins', σ', H', cls, d, e, J, r1, r2, r3, r4, r5, r6, w⟩ => tk u s' ⟨a, B, sI, pins', σ', H', cls, d, e, J, r1, r2, r3, r4, r5, r6, w J.len⟩) po Ech fun cls d σ' H' e hl => hW cls d σ' H' e hl).run pins s σ H D I h2
/-- the lambda called -/
def tAct (f c' : Addr) (q : Str) (tl : XK → Hp → VK → Prop) (E : XK) : TE := fun σZ HZ Q => σZ[0]? = some (some (.ref f)) ∧ HZ c' = some (LamX.CodeO c' q) ∧ tl E HZ Q
/-- what the def makes of it -/
def TTof (q : Str) (Ng : List Str) (T : Addr → Addr → (XK → Hp → VK → Prop) → TS) : (XK → Hp → VK → Prop) → Hp → VK → Prop := fun tl H Q => ∀ f c', H c' = some (LamX.CodeO c' q) → T f c' tl { nx := fun _ H' => Q .non H', rt := Q } (L2.start Ng [.ref f]) H
/-- how the lambda's call is read in the def's own try -/
def Acts (Z : Cx) (a : Str) (f c' : Addr) (q : Str) (tl : XK → Hp → VK → Prop) : Prop := ∀ (W : WX) (pn : List (Addr × Obj)) (xe : Value → Shared → Prop) (E : XK) (p1 p2 : Pos), Takes (Z.tr pn xe) W → (∀ cls d σ' H', E cls d H' → W cls d σ' H') → PE (Z.tr pn xe) (.Call (.Name a p1) [] [] p2) (tAct f c' q tl E)
/-- the context of the def that got the lambda -/
abbrev Zx (X : Cx) (Ng : List Str) (x : Str) (sg : Scope) (g : Addr) (cdg : Value) (s : Shared) (H : Hp) : Cx := cxOf C8.CX0 X.prog X.w X.K X.mg X.base Ng x sg g cdg X.A X.stack s H C8.E0
theorem gives {X : Cx} {Ng : List Str} {x a q : Str} {sg : Scope} {g : Addr} {cdg : Value} {bg : List Stmt} {T : Addr → Addr → (XK → Hp → VK → Prop) → TS}
    (h : ∀ (f c' : Addr) (s : Shared) (H : Hp) (tl : XK → Hp → VK → Prop), Acts (Zx X Ng x sg g cdg s H) a f c' q tl → PSs (Zx X Ng x sg g cdg s H).nox bg (T f c' tl)) :
    LamX.GivesTo X Ng x sg g cdg bg a q (TTof q Ng T) := fun f c' s H Q tl act hc h' => ⟨T f c' tl, h f c' s H tl act, h' f c' hc⟩
end DX
namespace DL
open PySem PySem.Spec PyProof.Rows L2 DX
/-- the lambda's body, told of states that bear c3 -/
def TlOk (c3 : Cn) (β : Nat) (tl : XK → Hp → VK → Prop) (Φb : D → Prop) (Xb : XD) : Prop := ∀ (σ2 : L2.St) (k2 h2 : Hp) (ς2 : Sta), SR c3 ς2 σ2 k2 h2 → ς2.m = [] → ς2.b = β → ∀ (E : XK) (Q : VK),
  (∀ v k' h' d, SR c3 ς2 σ2 k' h' → Same k2 k' → Rep c3.K k' v d → Φb d → Q v h') → (∀ C ns fs dd ws k' h', SR c3 ς2 σ2 k' h' → Same k2 k' → XAt k' dd ns ws → RepL c3.K k' ws fs → Xb C ns fs → E (.ref C) dd h') → tl E h2 Q
theorem TlOk.at {c3 : Cn} {β : Nat} {tl : XK → Hp → VK → Prop} {Φb : D → Prop} {Xb : XD} {kb : Hp} (h : TlOk c3 β tl Φb Xb) (e0 : Same c3.kb kb) : TlOk (c3.at kb) β tl Φb Xb := fun σ2 k2 h2 ς2 S hm hb E Q q1 q2 =>
  h σ2 k2 h2 ς2 (S.out e0) hm hb E Q (fun v k' h' d S' e r x => q1 v k' h' d (S'.into (S.kb.trans e)) e r x) fun C ns fs dd ws k' h' S' e a r x => q2 C ns fs dd ws k' h' (S'.into (S.kb.trans e)) e a r x
section
variable {c : Cn} {ς : Sta} {Φ : D → Sta → Prop} {Ψ : Psi}
theorem we_act {β : Nat} {f c' : Addr} {q : Str} {tl : XK → Hp → VK → Prop} {E : XK} {Φb : D → Prop} {Xb : XD} {X : XT} (hT : TlOk c β tl Φb Xb) (hc : ∀ b h, c.R.I b h → h c' = some (LamX.CodeO c' q)) (hE : XOk c E X) (h0 : ς.δ[0]? = some (some (.ref f))) (hm : ς.m = []) (hβ : ς.b = β)
    (hx : ∀ C ns fs, Xb C ns fs → X C ns fs ς) (hq : ∀ d, Φb d → Φ d ς) : WE c (tAct f c' q tl E) ς Φ := fun σ k h S Q z => by
  obtain ⟨v, hv, rv⟩ := S.s 0 _ h0
  cases rv
  exact ⟨hv, hc _ _ S.i, hT σ k h ς S hm hβ E Q (fun v k' h' d S' e r x => z v k' h' d ς S' e r (hq d x)) fun C ns fs dd ws k' h' S' _ a r x => hE C ns fs dd ws σ k' h' ς S' a r (hx C ns fs x)⟩
theorem ws_tryL {n : Nat} {l : List HC} {tBody : XK → TS} {Xb : XD} (hn : ς.δ.length = n) (hx : ∀ C ns fs, Xb C ns fs → fs.length = ns.length)
    (h : ∀ kb, Same c.kb kb → (∀ C ns fs, Xb C ns fs → HndOk (c.at kb) Ψ (fun _ _ _ _ => False) C ns fs { δ := List.replicate n none, b := ς.b } l) ∧ ∀ Ech, XOk (c.at kb) Ech (fun C ns fs ς1 => Xb C ns fs ∧ ς1.b = ς.b) → WS (c.at kb) (tBody Ech) ς Ψ) :
    WS c (tTryL c.K n l tBody) ς Ψ := fun σ k hh S E1 z => by
  obtain ⟨h1, h2⟩ := h k S.kb
  refine ⟨fun cls d H' => ∀ σ' : L2.St, σ'.length = n → wMix c.K (fun _ _ _ _ => False) E1 l cls d σ' H', fun cls d σ' H' e hl => e σ' hl, ?_⟩
  refine h2 (fun cls d H' => ∀ σ' : L2.St, σ'.length = n → wMix c.K (fun _ _ _ _ => False) E1 l cls d σ' H') (fun C ns fs dd ws σ' k' h' ς' S' a r ⟨x, eb⟩ σ2 hl => ?_) σ k hh (S.into (Same.refl _)) E1 ?_
  · have S2 : SR (c.at k) { δ := List.replicate n none, b := ς.b } σ2 k' h' := ⟨S'.g, by rw [← eb]; exact S'.i, S'.w, fun i d q => by
      have q : (List.replicate n (none : Option D))[i]? = some (some d) := q
      rw [List.getElem?_replicate] at q
      (split at q <;> cases q), fun p hp => absurd hp (by simp), List.nodup_nil, by rw [hl, List.length_replicate], S'.kb⟩
    exact hnd_mix S.kb z (fun _ _ _ _ _ _ _ _ _ _ _ _ z => z.elim) S2 a r (by rw [r.length, hx C ns fs x]) (h1 C ns fs x)
  · exact ⟨fun a b f s q p x => z.nx a b f s (q.out S.kb) p x, fun a b f s q p x => z.bk a b f s (q.out S.kb) p x, fun a b f s q p x => z.ct a b f s (q.out S.kb) p x, fun v a b f g s q p r x => z.rt v a b f g s (q.out S.kb) p r x⟩
/-- what the tables ask of the def's resource -/
structure TabR (c : Cn) (Tb : List (Addr × Str)) : Prop where
  k0 : ∀ a ps, c.k0 a ≠ some (.tbl ps)
  h0 : ∀ a ps, c.h0 a = some (.tbl ps) → c.R.W a
  fr : c.fr = true
  tabs : ∀ b h, c.R.I b h → LamX.Tabs Tb h
  ext : ∀ b h h', c.R.I b h → LamX.ExtN h h' → LamX.Tabs Tb h' → c.R.I b h'
  there : ∀ b h a, c.R.I b h → c.R.W a → h a ≠ none
theorem we_lam {Tb : List (Addr × Str)} {t : XK → TE} {T : Addr → Addr → (XK → Hp → VK → Prop) → TS} {Ng : List Str} {q : Str} {Φb : D → Prop} {Xb : XD} (V : TabR c Tb)
    (hb : ∀ c3 : Cn, c3.K = c.K → c3.fr = true → ∀ E, XOk c3 E (fun C ns fs ς1 => Xb C ns fs ∧ ς1 = { δ := ς.δ, b := ς.b }) → WE c3 (t E) { δ := ς.δ, b := ς.b } fun d ς1 => Φb d ∧ ς1 = { δ := ς.δ, b := ς.b })
    (hg : ∀ c3 : Cn, c3.K = c.K → c3.fr = true → ∀ f c' tl, (∀ b h, c3.R.I b h → h c' = some (LamX.CodeO c' q)) → TlOk c3 ς.b tl Φb Xb →
      WS c3 (T f c' tl) { δ := startD Ng [.ref f], b := ς.b } { nx := fun ς1 => Φ .non { ς with b := ς1.b }, rt := fun d ς1 => Φ d { ς with b := ς1.b } }) :
    WE c (LamX.tLam Tb (TTof q Ng T) t) ς Φ := fun σ k h S Q z => ⟨V.tabs _ _ S.i, fun H1 eN T1 f c' hc => by
  have kN : ∀ a ps, k a ≠ some (.tbl ps) := fun a ps q => V.k0 a ps (S.g.kt a ps q)
  have I1 : c.R.I ς.b H1 := V.ext _ _ _ S.i eN T1
  have kH1 : Same k H1 := fun a o q => eN a o (S.kh a o q) fun ps e => kN a ps (by rw [q, e])
  have S1 : SR c ς σ k H1 := by
    have hh : ∀ a o, ¬ c.R.W a → c.h0 a = some o → H1 a = some o := fun a o nw q => eN a o (S.g.hh a o nw q) fun ps e => nw (V.h0 a ps (by rw [q, e]))
    refine ⟨⟨S.g.kk, kH1, hh, fun a q => ?_, S.g.dj, S.g.kt⟩, I1, S.w, S.s, fun p hp => ?_, S.nd, S.len, S.kb⟩
    · by_cases wa : c.R.W a
      · exact V.there _ _ _ I1 wa
      · cases e : c.h0 a with
        | none => exact absurd e q
        | some o => rw [hh a o wa e]; simp
    · obtain ⟨a1, a2, a3⟩ := S.m p hp
      refine ⟨a1, a2, ?_⟩
      obtain ⟨o, mo⟩ := p
      cases mo with
      | lst ds => obtain ⟨vs, q, r⟩ := a3; exact ⟨vs, eN _ _ q (by nofun), r⟩
      | ins C dx ns ds => obtain ⟨fs, q, n, r⟩ := a3; exact ⟨fs, eN _ _ q (by nofun), n, r⟩
      | dct ks ds => obtain ⟨kvs, q, n, r⟩ := a3; exact ⟨kvs, eN _ _ q (by nofun), n, r⟩
  let R3 : Res := ⟨c.R.W, fun b h => c.R.I b h ∧ h c' = some (LamX.CodeO c' q), fun b h h' st ⟨x, y⟩ => ⟨c.R.st b h h' st x, st c' _ (.inr trivial) y⟩⟩
  let c3 : Cn := ⟨c.K, R3, k, H1, true, k⟩
  have W3 : ∀ a, c.R.W a → k a = none ∧ H1 a ≠ none := fun a wa => ⟨S.g.dj a (S.w a wa).1 (S.w a wa).2, V.there _ _ _ I1 wa⟩
  have S3 : SR c3 { δ := startD Ng [.ref f], b := ς.b } (L2.start Ng [.ref f]) k H1 :=
    ⟨Grow.refl kH1, ⟨I1, hc⟩, W3, fun i d q => start_rep (ds := [.ref f]) (.cons (.ref f) .nil) q, fun p hp => absurd hp (by simp), List.nodup_nil, start_len rfl, Same.refl _⟩
  have tl : TlOk c3 ς.b (fun E H' Q' => t E σ H' Q') Φb Xb := by
    intro σ2 k2 h2 ς2 S2 hm hβ E Q' q1 q2
    have back : ∀ {ς1 : Sta} {k' h' : Hp}, ς1.b = ς.b → SR (c3.at k2) ς1 σ k' h' → SR c3 ς2 σ2 k' h' := fun {ς1 k' h'} eb S' =>
      ⟨S'.g, by rw [hβ, ← eb]; exact S'.i, S'.w, fun i d q => by
        obtain ⟨v, a, r⟩ := S2.s i d q
        exact ⟨v, a, r.mono S'.kb⟩, fun p hp => by rw [hm] at hp; exact absurd hp (by simp), S2.nd, S2.len, S2.kb.trans S'.kb⟩
    have Sb : SR (c3.at k2) { δ := ς.δ, b := ς.b } σ k2 h2 := ⟨S2.g, by have := S2.i; rw [hβ] at this; exact this, S2.w, fun i d q => by
      obtain ⟨v, a, r⟩ := S.s i d q
      exact ⟨v, a, r.mono S2.g.kk⟩, fun p hp => absurd hp (by simp), List.nodup_nil, S.len, Same.refl _⟩
    refine hb (c3.at k2) rfl rfl E (fun C ns fs dd ws σ' k' h' ς' S' a r ⟨x, e⟩ => ?_) σ k2 h2 Sb Q' fun v k' h' d ς1 S' e r ⟨x, eς⟩ => ?_
    · subst e
      refine q2 C ns fs dd ws k' h' ⟨S'.g, by rw [hβ]; exact S'.i, S'.w, fun i d q => ?_, fun p hp => ?_, S2.nd, S2.len, S2.kb.trans S'.kb⟩ S'.kb a r x
      · obtain ⟨v, a, r⟩ := S2.s i d q
        exact ⟨v, a, r.mono S'.kb⟩
      · rw [hm] at hp
        exact absurd hp (by simp)
    · subst eς
      exact q1 v k' h' d (back (ς1 := { δ := ς.δ, b := ς.b }) rfl S') e r x
  have fin : ∀ {ς' : Sta} {σ' : L2.St} {k' h' : Hp}, SR c3 ς' σ' k' h' → SR c { ς with b := ς'.b } σ k' h' := fun {ς' σ' k' h'} S' => S1.after S'.g S'.i.1 V.fr
  exact hg c3 rfl rfl f c' _ (fun b h x => x.2) tl (L2.start Ng [.ref f]) k H1 S3 _ ⟨fun σ' k' h' ς' S' e x => z .non k' h' .non _ (fin S') e .non x, fun _ _ _ _ _ _ x => x.elim, fun _ _ _ _ _ _ x => x.elim, fun v σ' k' h' d ς' S' e r x => z v k' h' d _ (fin S') e r x⟩⟩
end
end DL

set_option Elab.async false
set_option linter.all false
set_option maxRecDepth 100000
set_option maxHeartbeats 4000000
namespace DX
open PySem PySem.Spec PyProof.Rows L2 DL
/-- raise C(..) -/
def tRaise (C : Addr) (fs : List Str) (W : WX) (ta : TA) : TS := fun _ σ H => tXMk C fs ta σ H fun cls d H' => W cls d σ H'
theorem ps_rs {X : Cx} {W : WX} {C : Addr} {fs : List Str} {a : Expr} {es : List Expr} {ta : TA} {x : Str} {p pos pos2 : Pos} {k : Nat} (tk : Takes X W) (T : ∃ fI, Txt X.prog X.K X.mg x C fI fs) (nd : fs.Nodup) (hfew : fs.length ≤ 800) (hr : Room k X.A) (ha : PA X (a :: es) ta) (hc : X.calm = true := by rfl) (hg : Gl X x := by rfl) (hdb : (x == ("__debug__" : Str)) = false := by decide)
    (he : starEach (a :: es) X.env = (false, eval a X.env) :: starEach es X.env := by rfl) (hpl : (backTo pos (starEach es X.env)).any (·.1) = false := by rfl) :
    PS X (.Raise (some (.Call (.Name x p) (a :: es) [] pos)) none pos2) (tRaise C fs W ta) := by
  obtain ⟨fI, T⟩ := T
  exact ps_raise hc tk (pmk_x T nd hfew hr ha hg hdb he hpl)
theorem ps_rs0 {X : Cx} {W : WX} {C : Addr} {x : Str} {p pos pos2 : Pos} {k : Nat} (tk : Takes X W) (T : ∃ fI, Txt X.prog X.K X.mg x C fI []) (hr : Room k X.A) (hc : X.calm = true := by rfl) (hg : Gl X x := by rfl) (hdb : (x == ("__debug__" : Str)) = false := by decide) :
    PS X (.Raise (some (.Call (.Name x p) [] [] pos)) none pos2) (tRaise C [] W tNil) := by
  obtain ⟨fI, T⟩ := T
  exact ps_raise hc tk (pmk_x0 T hr hg hdb)
theorem ws_rs {c : Cn} {ς : Sta} {Ψ : Psi} {W : WX} {X : XT} {C : Addr} {fs : List Str} {ta : TA} (hX : XOkW c W X) (h : WL c ta ς fun ds ς1 => ds.length = fs.length ∧ X C fs ds ς1) : WS c (tRaise C fs W ta) ς Ψ := ws_raise hX h
/-- a clause's class -/
theorem nm_own {X : Cx} {x : Str} {C fI : Addr} {fs : List Str} (T : Txt X.prog X.K X.mg x C fI fs) (hg : Gl X x := by rfl) (hdb : (x == ("__debug__" : Str)) = false := by decide) : Names X x (.ref C) := ⟨hg, hdb, .inl T.gC⟩
theorem nm_ex {X : Cx} {x : Str} {C : Addr} {fs : List Str} (T : ∃ fI, Txt X.prog X.K X.mg x C fI fs) (hg : Gl X x := by rfl) (hdb : (x == ("__debug__" : Str)) = false := by decide) : Names X x (.ref C) := by
  obtain ⟨fI, T⟩ := T
  exact ⟨hg, hdb, .inl T.gC⟩
/-- e.f, e the exception that the suite holds -/
theorem pe_exf {X : Cx} {a C : Addr} {oe : Obj} {cls : Value} {d : Option Addr} {pn : List (Addr × Obj)} {e : Expr} {te : TE} {pos : Pos} {x n : Str} {fs : List Str} (T : ∃ fI, Txt X.prog X.K X.mg x C fI fs) (hn : n ∈ fs)
    (hz : Zc cls d oe) (hf : ∃ vs, oe.data = .fields vs) (he : PE (X.suite a ((a, oe) :: pn)) e te) (hb : attributeBase e n X.env (eval e X.env) = eval e X.env := by rfl) :
    PE (X.suite a ((a, oe) :: pn)) (.Attribute e n pos) (tXf a cls d C n te) := by
  obtain ⟨fI, T⟩ := T
  exact pe_xf T.xf (T.noN n hn) hz hf he hb
end DX
namespace DX
open PySem PySem.Spec PyProof.Rows L2 DL
/-- x(lambda: body), x a def that calls what it got within a try -/
theorem pe_lamT {X : Cx} {Tb : List (Addr × Str)} {x a : Str} {st : Stmt} {Ng : List Str} {c Pt : Addr} {k : Nat} {params : Arguments} {body : Expr} {scope : Scope} {t : XK → TE} {T : Addr → Addr → (XK → Hp → VK → Prop) → TS} {p lpos pos : Pos} {q : Str}
    (hx : ∃ (g : Addr) (fd : FuncData), Fun X.K x x st g fd ∧ X.mg x = some (.ref g) ∧ L2.Binds X.K fd [a] []) (Sg : FnScope Ng [a] (defScope st)) (hNg : Ng[0]? = some a) (hva : Vis (defScope st) a)
    (hd : ∀ (g : Addr) (cdg : Value) (f c' : Addr) (s : Shared) (H : Hp) (tl : XK → Hp → VK → Prop), Acts (Zx X Ng x (defScope st) g cdg s H) a f c' q tl → PSs (Zx X Ng x (defScope st) g cdg s H).nox (defBody st) (T f c' tl))
    (TB : LamX.TabB X.base X.mg c Pt) (hcode : X.env.code = .ref c) (hmT : (Pt, q) ∈ Tb) (hu : ∀ p ∈ Tb, p.1 = Pt → p.2 = q) (hr : Room (k + 2) X.A) (L : LamX.LamS X.env.scope scope)
    (hbody : ∀ (A : Around) (outer : List Env) (s : Shared) (H : Hp) (E : XK) (f c' : Addr), Room k (A.deeper (LamX.lamEnv X scope s.heap.objs.size f c')) → PE (LamX.lamCx X A outer s H E scope f c') body (t E))
    (hq : X.env.qual ++ "<lambda>" = q := by rfl) (hg : Gl X x := by rfl) (hdef : defaultsOf params X.env = ([], []) := by rfl)
    (hbind : ∀ (q : Str) (cl : List (Str × Addr)) (pm cv ctv : Value), bindArgs (PySem.W.kla_fn "<lambda>" q params body scope cl pm cv ctv) ⟨[], []⟩ = pure [] := by intros; rfl)
    (hdb : (x == ("__debug__" : Str)) = false := by decide) (hda : (a == ("__debug__" : Str)) = false := by decide) (hcd : (a == ("__classdict__" : Str)) = false := by decide) :
    PE X (.Call (.Name x p) [.Lambda params body scope lpos] [] pos) (LamX.tLam Tb (TTof q Ng T) t) := by
  subst hq
  obtain ⟨g, fd, F, hm, hb⟩ := hx
  obtain ⟨oc, od, kV, doc, pm, an, cdv, ct, osl, rfl, lk, hcg⟩ := F.ex
  exact LamX.pe_lamcall hg hm F.kp lk hcg hb Sg hNg hva (gives fun f c' s H tl act => hd g cdv f c' s H tl act) TB hcode hmT hu hr L hdef hbind hbody hdb hda hcd
end DX

set_option Elab.async false
set_option linter.all false
set_option maxRecDepth 100000
set_option maxHeartbeats 4000000
namespace DL
open PySem PySem.Spec PyProof.Rows L2 DX
section
variable {c : Cn} {ς : Sta} {Φ : D → Sta → Prop} {Ψ : Psi}
theorem take_more {α : Type} {l : List α} {i : Nat} {x : α} (h : l[i]? = some x) : l.take (i + 1) = l.take i ++ [x] := by
  rw [List.take_add_one, h]
  rfl
/-- a list comprehension that hangs on its items alone -/
theorem we_lcF {wi : TI} {g : TG} {tt : TT} {te : TE} {vs : List Nat} (kg : KG g vs) (h : WI c wi ς fun ds ς1 => ∃ (p : D → Bool) (f : D → D), ds.length < sizeLine ∧
    (∀ d ∈ ds, ∀ (o : Addr) (acc : List D), WG c g d { δ := wipeD ς1.δ vs, m := (o, .lst acc) :: ς1.m, b := ς1.b } fun ς2 => WT c tt ς2 fun x ς3 => x = p d ∧
      (x = true → WE c te ς3 fun e ς4 => e = f d ∧ ς4.m = (o, .lst acc) :: ς1.m ∧ ς4.b = ς1.b) ∧ (x = false → ς3.m = (o, .lst acc) :: ς1.m ∧ ς3.b = ς1.b)) ∧
    Φ (.lst ((ds.filter p).map f)) ς1) : WE c (tLc wi g tt te vs) ς Φ := by
  refine we_lc kg fun σ k hh S Q z => h σ k hh S Q fun J k1 h1 ds ς1 S1 e1 w ⟨p, f, hl, hs, hq⟩ => ?_
  refine z J k1 h1 ds ς1 S1 e1 w ⟨fun i acc b => acc = ((ds.take i).filter p).map f ∧ b = ς1.b, ⟨rfl, rfl⟩, fun i d acc b o hi ⟨ea, eb⟩ => ?_, fun acc b ⟨ea, eb⟩ => ?_⟩
  · subst eb
    refine fun σ k h v S r Q z => hs d (List.mem_of_getElem? hi) o acc σ k h v S r Q fun σ' k' h' ς2 S' e q => z σ' k' h' ς2 S' e fun σ k h S Q z => q σ k h S Q fun x k' h' ς3 S' e ⟨ex, q1, q2⟩ => z x k' h' ς3 S' e ⟨fun e => ?_, fun e => ?_⟩
    · refine fun σ k h S Q z => q1 e σ k h S Q fun v k' h' d' ς4 S' e' r ⟨e1, e2, e3⟩ => z v k' h' d' ς4 S' e' r ⟨?_, e2, ?_, e3⟩
      · rw [ea, List.length_map]
        exact Nat.lt_of_le_of_lt (Nat.le_trans (List.length_filter_le _ _) (by rw [List.length_take]; omega)) hl
      · subst e1
        rw [take_more hi, List.filter_append, List.map_append, ← ea]
        simp [← ex, e]
    · obtain ⟨e1, e2⟩ := q2 e
      refine ⟨e1, ?_, e2⟩
      rw [take_more hi, List.filter_append, List.map_append, ← ea]
      simp [← ex, e]
  · subst eb
    rw [List.take_length] at ea
    rw [ea]
    exact hq
/-- the same without a test -/
theorem we_lcM {wi : TI} {g : TG} {te : TE} {vs : List Nat} (kg : KG g vs) (h : WI c wi ς fun ds ς1 => ∃ (f : D → D), ds.length < sizeLine ∧
    (∀ d ∈ ds, ∀ (o : Addr) (acc : List D), WG c g d { δ := wipeD ς1.δ vs, m := (o, .lst acc) :: ς1.m, b := ς1.b } fun ς2 =>
      WE c te ς2 fun e ς4 => e = f d ∧ ς4.m = (o, .lst acc) :: ς1.m ∧ ς4.b = ς1.b) ∧
    Φ (.lst (ds.map f)) ς1) : WE c (tLc wi g tYes te vs) ς Φ := by
  refine we_lcF kg fun σ k hh S Q z => h σ k hh S Q fun J k1 h1 ds ς1 S1 e1 w ⟨f, hl, hs, hq⟩ => ?_
  refine z J k1 h1 ds ς1 S1 e1 w ⟨fun _ => true, f, hl, fun d hd o acc => ?_, ?_⟩
  · refine fun σ k h v S r Q z => hs d hd o acc σ k h v S r Q fun σ' k' h' ς2 S' e q => z σ' k' h' ς2 S' e (wt_yes ⟨rfl, fun _ => q, fun e => nomatch e⟩)
  · have e : ds.filter (fun _ => true) = ds := by simp
    rw [e]
    exact hq
def tyS (d : D) : String := (tyN d).getD ""
theorem rc_isiS {K : PySem.W.Frag} {Φ' : D → Prop} {d : D} {n : String} (hs : (tyN d).isSome = true) (hn : Knd n) (q : Φ' (.bl (isB (tyS d) n))) : RC K (rIsi K) [d, .ty n] Φ' := by
  obtain ⟨s, e⟩ := Option.isSome_iff_exists.mp hs
  refine rc_isi e hn ?_
  have : tyS d = s := by unfold tyS; rw [e]; rfl
  rw [← this]
  exact q
/-- isinstance(d, n), n a built-in type -/
def isK (d : D) (n : String) : Option Bool := (tyN d).bind fun s => if ["NoneType", "bool", "int", "str", "list", "tuple", "dict"].contains n then some (isB s n) else none
theorem rc_isiB {K : PySem.W.Frag} {Φ' : D → Prop} {d : D} {n : String} {r : Bool} (h : isK d n = some r) (q : Φ' (.bl r)) : RC K (rIsi K) [d, .ty n] Φ' := by
  unfold isK at h
  obtain ⟨s, e, h⟩ := Option.bind_eq_some_iff.mp h
  split at h
  · rename_i hc
    cases h
    refine rc_isi e ?_ q
    simpa [Knd] using hc
  · cases h
theorem toBls {l : List Bool} : (l.map D.bl) = l.map D.bl := rfl
/-- any, all of a comprehension's truths -/
theorem rc_anyF {K : PySem.W.Frag} {Φ : D → Prop} {ds : List D} {f : D → Bool} (q : Φ (.bl (ds.any f))) : RC K (rAny K) [.lst (ds.map fun d => .bl (f d))] Φ := by
  have e : (ds.map fun d => D.bl (f d)) = (ds.map f).map D.bl := by rw [List.map_map]; rfl
  rw [e]
  refine rc_any ?_
  rw [List.any_map]
  exact q
theorem rc_allF {K : PySem.W.Frag} {Φ : D → Prop} {ds : List D} {f : D → Bool} (q : Φ (.bl (ds.all f))) : RC K (rAll K) [.lst (ds.map fun d => .bl (f d))] Φ := by
  have e : (ds.map fun d => D.bl (f d)) = (ds.map f).map D.bl := by rw [List.map_map]; rfl
  rw [e]
  refine rc_all ?_
  rw [List.all_map]
  exact q
end
end DL

set_option Elab.async false
set_option linter.all false
set_option maxRecDepth 100000
set_option maxHeartbeats 4000000
/-! the rules whose readings name the written part, with that part told ahead (a comprehension's block must not stand in a reading) -/
namespace DK
open PySem PySem.Spec PyProof.Rows L2 DL
section
variable {X : Cx} {K : PySem.W.Frag}
theorem op_add (h : X.K = K := by rfl) : OpR X (binaryOp .Add) (rAddK K) := by subst h; exact op_addK
theorem op_eq (hu : X.A.units + 64 < cLine) (h : X.K = K := by rfl) : OpR X (compareOp .Eq) (rEqK K) := by subst h; exact op_eqK hu
theorem op_ne (hu : X.A.units + 64 < cLine) (h : X.K = K := by rfl) : OpR X (compareOp .NotEq) (rNeK K) := by subst h; exact op_neK hu
theorem op_in (h : X.K = K := by rfl) : OpR X (compareOp .In) (rInK K) := by subst h; exact op_inK
theorem op_nin (h : X.K = K := by rfl) : OpR X (compareOp .NotIn) (rNinK K) := by subst h; exact op_ninK
theorem ix (h : X.K = K := by rfl) : IxR X (rIxK K) := by subst h; exact ix_K
theorem sl (h : X.K = K := by rfl) : SlR X (rSlK K) := by subst h; exact sl_K
theorem len (h : X.K = K := by rfl) : CallR X (.builtin "len") (rLenK K) := by subst h; exact call_lenK
theorem lst (h : X.K = K := by rfl) : CallR X (.type "list") (rListK K) := by subst h; exact call_listK
theorem tup (h : X.K = K := by rfl) : CallR X (.type "tuple") (rTupK K) := by subst h; exact call_tupK
theorem isi (h : X.K = K := by rfl) : CallR X (.builtin "isinstance") (rIsi K) := by subst h; exact call_isi
theorem isiT (h : X.K = K := by rfl) : CallR X (.builtin "isinstance") (rIsiT K) := by subst h; exact call_isiT
theorem any (h : X.K = K := by rfl) (hc : X.calm = true := by rfl) : CallR X (.builtin "any") (rAny K) := by subst h; exact cr_any hc
theorem all (h : X.K = K := by rfl) (hc : X.calm = true := by rfl) : CallR X (.builtin "all") (rAll K) := by subst h; exact cr_all hc
theorem sum (h : X.K = K := by rfl) (hc : X.calm = true := by rfl) : CallR X (.builtin "sum") (rSum K) := by subst h; exact cr_sum hc
theorem max (h : X.K = K := by rfl) (hc : X.calm = true := by rfl) : CallR X (.builtin "max") (rMax K) := by subst h; exact cr_max hc
theorem min (h : X.K = K := by rfl) (hc : X.calm = true := by rfl) : CallR X (.builtin "min") (rMin K) := by subst h; exact cr_min hc
theorem pi_list {tg l : Expr} {tl : TE} (hl : PE X l tl) (h : X.K = K := by rfl) : PI X tg l (iList K tl) := by subst h; exact L2.pi_list hl
theorem pi_tup {tg l : Expr} {tl : TE} (hl : PE X l tl) (h : X.K = K := by rfl) : PI X tg l (iTup K tl) := by subst h; exact L2.pi_tup hl
theorem pi_seq {tg l : Expr} {tl : TE} (hl : PE X l tl) (h : X.K = K := by rfl) : PI X tg l (iSeq K tl) := by subst h; exact DL.pi_seq hl
theorem pe_fld {e : Expr} {ta : TE} {f : Str} {pos : Pos} (he : PE X e ta) (h : X.K = K := by rfl) (hb : attributeBase e f X.env (eval e X.env) = eval e X.env := by rfl) : PE X (.Attribute e f pos) (tFld K ta f) := by subst h; exact L2.pe_fld he hb
theorem pe_revL {e : Expr} {te : TE} {k : Nat} {p1 p2 p3 pos : Pos} (he : PE X e te) (h : X.K = K := by rfl) : PE X (.Subscript e (.Slice none none (some (.UnaryOp .USub (.Constant (.int 1) k p1) p2)) p3) pos) (tRevL K te) := by subst h; exact L2.pe_revL he
theorem pg_tup {es : List Expr} {k : Nat} {t : TGs} {n : Nat} {pos : Pos} (hc : X.calm = true) (ha : PGs X es t) (h : X.K = K := by rfl)
    (hn : (assignEach es X.env).length = n := by rfl) (hst : (assignEach es X.env).findIdx? (·.1) = none := by rfl) : PG X (.Tuple es k pos) (gTup K n t) := by subst h; exact L2.pg_tup hc ha hn hst
theorem pi_enum {e : Expr} {ta : TA} {p pos tpos : Pos} {elts : List Expr} {kk : Nat} (hg : Gl X "enumerate") (hm : X.mg "enumerate" = none) (ha : PA X [e] ta) (h : X.K = K := by rfl) (hs : starEach [e] X.env = [(false, eval e X.env)] := by rfl) :
    PI X (.Tuple elts kk tpos) (.Call (.Name "enumerate" p) [e] [] pos) (iEnum K ta) := by subst h; exact L2.pi_enum hg hm ha hs
theorem pi_zip {e e2 : Expr} {ta : TA} {p pos tpos : Pos} {elts : List Expr} {kk : Nat} (hg : Gl X "zip") (hm : X.mg "zip" = none) (ha : PA X [e, e2] ta) (h : X.K = K := by rfl)
    (hs : starEach [e, e2] X.env = (false, eval e X.env) :: starEach [e2] X.env := by rfl) (hpl : (backTo pos (starEach [e2] X.env)).any (·.1) = false := by rfl) :
    PI X (.Tuple elts kk tpos) (.Call (.Name "zip" p) [e, e2] [] pos) (RZ.iZipA K ta) := by subst h; exact RZ.pi_zipA hg hm ha hs hpl
end
end DK
namespace DL
open PySem PySem.Spec PyProof.Rows L2 DX
section
variable {c : Cn} {ς : Sta} {Φ : D → Sta → Prop} {Ψ : Psi}
/-- what comes of an outcome -/
inductive OutP (Φ : D → Sta → Prop) (X : XT) (ς : Sta) : Out → Prop
  | ret {d : D} (q : Φ d ς) : OutP Φ X ς (.ret d)
  | exc {C : Addr} {ns : List Str} {fs : List D} (q : X C ns fs ς) : OutP Φ X ς (.exc C ns fs)
/-- a call of a def that hangs on its arguments alone -/
theorem we_callF {n : Nat} {g : List D → Option Out} {E : XK} {ta : TA} {X : XT} (hE : XOk c E X) (h : WL c ta ς fun ds ς1 => ds.length = n ∧ ∃ o, g ds = some o ∧ OutP Φ X ς1 o) : WE c (tCall (SpS c.K n (spcF g)) [] E ta) ς Φ := by
  refine we_call hE fun σ k hh S Q z => h σ k hh S Q fun vs k' h' ds ς' S' e r ⟨h1, o, h2, h3⟩ => z vs k' h' ds ς' S' e r ⟨h1, ⟨o, h2⟩, fun d b q => ?_, fun C ns fs b q => ?_⟩
  · have e := h2.symm.trans q.1
    cases e
    cases h3 with
    | ret q => exact q
  · have e := h2.symm.trans q.1
    cases e
    cases h3 with
    | exc q => exact q
theorem we_callTF {n : Nat} {g : List D → Option Out} {W : WX} {ta : TA} {X : XT} (hE : XOkW c W X) (h : WL c ta ς fun ds ς1 => ds.length = n ∧ ∃ o, g ds = some o ∧ OutP Φ X ς1 o) : WE c (tCallS (SpS c.K n (spcF g)) (L2.WE W) ta) ς Φ := by
  refine we_callT hE fun σ k hh S Q z => h σ k hh S Q fun vs k' h' ds ς' S' e r ⟨h1, o, h2, h3⟩ => z vs k' h' ds ς' S' e r ⟨h1, ⟨o, h2⟩, fun d b q => ?_, fun C ns fs b q => ?_⟩
  · have e := h2.symm.trans q.1
    cases e
    cases h3 with
    | ret q => exact q
  · have e := h2.symm.trans q.1
    cases e
    cases h3 with
    | exc q => exact q
theorem co_ret {n : Nat} {g : List D → Option Out} {ds : List D} {X : XT} {d : D} (hl : ds.length = n) (hg : g ds = some (.ret d)) (q : Φ d ς) : ds.length = n ∧ ∃ o, g ds = some o ∧ OutP Φ X ς o := ⟨hl, _, hg, .ret q⟩
theorem co_exc {n : Nat} {g : List D → Option Out} {ds : List D} {X : XT} {C : Addr} {ns : List Str} {fs : List D} (hl : ds.length = n) (hg : g ds = some (.exc C ns fs)) (q : X C ns fs ς) : ds.length = n ∧ ∃ o, g ds = some o ∧ OutP Φ X ς o := ⟨hl, _, hg, .exc q⟩
theorem co_if {n : Nat} {g : List D → Option Out} {ds : List D} {X : XT} {p : Bool} {o1 o2 : Out} (hl : ds.length = n) (hg : g ds = some (if p = true then o1 else o2)) (q1 : p = true → OutP Φ X ς o1) (q2 : p = false → OutP Φ X ς o2) : ds.length = n ∧ ∃ o, g ds = some o ∧ OutP Φ X ς o := by
  refine ⟨hl, _, hg, ?_⟩
  cases p with
  | true => exact q1 rfl
  | false => exact q2 rfl
end
end DL
namespace DL
theorem brT2 {p q : Prop} {b : Bool} (h : b = true) (x : p) : (b = true → p) ∧ (b = false → q) := ⟨fun _ => x, fun z => by rw [h] at z; cases z⟩
theorem brF2 {p q : Prop} {b : Bool} (h : b = false) (x : q) : (b = true → p) ∧ (b = false → q) := ⟨fun z => (by rw [h] at z; cases z), fun _ => x⟩
theorem brT3 {p q : Prop} {b : Bool} (h : b = true) (x : p) : (b = false → q) ∧ (b = true → p) := ⟨fun z => (by rw [h] at z; cases z), fun _ => x⟩
theorem brF3 {p q : Prop} {b : Bool} (h : b = false) (x : q) : (b = false → q) ∧ (b = true → p) := ⟨fun _ => x, fun z => by rw [h] at z; cases z⟩
end DL
namespace DL
def dI : D → Int
  | .int i => i
  | _ => 0
end DL
namespace DL
open PySem
theorem szB {n : Nat} {p : Prop} (h : Nat.ble n 1000 = true) (q : p) : n ≤ sizeLine ∧ p := ⟨by rw [sizeLine_eq]; exact Nat.le_trans (Nat.le_of_ble_eq_true h) (by decide), q⟩
theorem szL {n : Nat} {p : Prop} (h : Nat.ble n 1000 = true) (q : p) : n < sizeLine ∧ p := ⟨by rw [sizeLine_eq]; exact Nat.lt_of_le_of_lt (Nat.le_of_ble_eq_true h) (by decide), q⟩
end DL
namespace DL
open PySem PySem.Spec PyProof.Rows L2
theorem wg_nm {c : Cn} {ς : Sta} {i : Nat} {d : D} {Φ : Sta → Prop} (hi : Nat.blt i ς.δ.length = true) (q : Φ { ς with δ := ς.δ.set i (some d) }) : WG c (gName i) d ς Φ := wg_name (Nat.blt_eq.mp hi) q
end DL
namespace DL
open PySem PySem.Spec PyProof.Rows L2
theorem rng_mem {lo : Int} {n : Nat} {d : D} (h : d ∈ rngD lo n) : ∃ x, d = .int x ∧ lo ≤ x ∧ x < lo + n := by
  obtain ⟨i, hi, e⟩ := List.mem_iff_getElem.mp h
  obtain ⟨e1, e2⟩ := rngD_get (lo := lo) (n := n) (i := i) (d := d) (by rw [List.getElem?_eq_getElem hi, e])
  exact ⟨_, e1, by omega, by omega⟩
theorem rng2_ok {i j : Int} {Q : List D → Prop} (h : -(2 ^ 62) ≤ i ∧ i < 2 ^ 62 ∧ -(2 ^ 62) ≤ j ∧ j < 2 ^ 62) (q : Q (rngD i (j - i).toNat)) : ∃ i' j' : Int, [D.int i, D.int j] = [.int i', .int j'] ∧ (-(2 ^ 62) ≤ i' ∧ i' < 2 ^ 62 ∧ -(2 ^ 62) ≤ j' ∧ j' < 2 ^ 62) ∧ Q (rngD i' (j' - i').toNat) := ⟨i, j, rfl, h, q⟩
theorem rng1_ok {j : Int} {Q : List D → Prop} (h1 : -(2 ^ 62) ≤ j) (h2 : j < 2 ^ 62) (q : Q (rngD 0 j.toNat)) : ∃ j' : Int, [D.int j] = [.int j'] ∧ -(2 ^ 62) ≤ j' ∧ j' < 2 ^ 62 ∧ Q (rngD 0 j'.toNat) := ⟨j, rfl, h1, h2, q⟩
theorem le_size {n : Nat} (h : n ≤ 16777216) : n ≤ sizeLine := by rw [sizeLine_eq]; exact h
theorem lt_size {n : Nat} (h : n < 16777216) : n < sizeLine := by rw [sizeLine_eq]; exact h
theorem mul_small {i j : Int} (h1 : -(2 ^ 64) < i) (h2 : i < 2 ^ 64) : CMul i j := .inl ⟨h1, h2⟩
end DL
namespace DL
open PySem PySem.Spec PyProof.Rows L2
theorem atI_nat {α : Type} {l : List α} {i : Nat} {x : α} (h : l[i]? = some x) : atI l (i : Int) = some x := by
  have hl : i < l.length := (List.getElem?_eq_some_iff.mp h).1
  have e : ixN l.length (i : Int) = some i := by
    unfold ixN
    rw [if_pos (by omega), if_pos (by omega)]
    rfl
  unfold atI
  rw [e]
  exact h
theorem atI_0 {α : Type} {l : List α} {x : α} : atI (x :: l) 0 = some x := atI_nat (i := 0) rfl
theorem atI_1 {α : Type} {l : List α} {x y : α} : atI (x :: y :: l) 1 = some y := atI_nat (i := 1) rfl
theorem atI_2 {α : Type} {l : List α} {x y z : α} : atI (x :: y :: z :: l) 2 = some z := atI_nat (i := 2) rfl
theorem atI_3 {α : Type} {l : List α} {x y z u : α} : atI (x :: y :: z :: u :: l) 3 = some u := atI_nat (i := 3) rfl
end DL
namespace DL
theorem parB {x y : D} {i j n : Nat} {P : D → D → Prop} (hi : Nat.blt i n = true) (hj : Nat.blt j n = true) (q : P x y) : ∃ d e, [x, y] = [d, e] ∧ i < n ∧ j < n ∧ P d e := ⟨x, y, rfl, Nat.blt_eq.mp hi, Nat.blt_eq.mp hj, q⟩
end DL

set_option Elab.async false
set_option linter.all false
set_option maxRecDepth 100000
set_option maxHeartbeats 4000000
/-! the stream of draws -/
namespace DL
open PySem PySem.Spec PyProof.Rows L2 DX
/-- within a def that draws: the stream's two lists are written at will -/
def wres (a l : Addr) : Res := ⟨fun z => z = a ∨ z = l, fun _ _ => True, fun _ _ _ _ h => h⟩
abbrev StM (a l : Addr) (cells : List Int) (x n m : Int) : List (Addr × MO) := [(a, .lst [.ref l, .int x, .int n, .int m]), (l, .lst (cells.map D.int))]
/-- a def whose first argument is the stream -/
def drawSpc (P : List D → Nat → Prop) (Q : List D → Nat → D → Nat → Prop) : Spc where
  pre := fun R ds b => ∃ a l as, R = strm a l ∧ ds = .ref a :: as ∧ P as b
  post := fun R ds b d b' => ∃ a as, ds = .ref a :: as ∧ Q as b d b'
section
variable {P : Program} {w : World} {K : PySem.W.Frag} {mg : Str → Option Value} {base : Heap}
theorem fn_strm {x qual : Str} {st : Stmt} {f : Addr} {fd : FuncData} {N ps : List Str} {k n : Nat} {Pr : List D → Nat → Prop} {Po : List D → Nat → D → Nat → Prop} (Fn : Fun K x qual st f fd) (S : FnScope N ps (defScope st)) (hn : ps.length = n)
    (hbody : ∀ (cdv : Value) (A : Around) (outer : List Env) (sh : Shared) (H : Hp) (E : XK), Room k (A.deeper (envOfC qual (defScope st) sh.heap.objs.size f cdv)) →
      ∃ t, PSs (cxOf (L2.CX P w) P w K mg base N qual (defScope st) f cdv A outer sh H E) (defBody st) t ∧
        ∀ (a l : Addr) (k0 : Hp) (as : List D) (b : Nat) (cells : List Int) (x nn m : Int), Pr as b → (D.ref a :: as).length = n → 0 ≤ nn → nn ≤ b → 0 ≤ m → m < 2147483647 →
          WS ⟨K, wres a l, k0, H, false, fun _ => none⟩ t { δ := startD N (.ref a :: as), m := StM a l cells x nn m, b := 0 }
            { nx := fun _ => False, rt := fun d ς => ∃ cells' x' n' m' b', ς.m = StM a l cells' x' n' m' ∧ 0 ≤ n' ∧ n' ≤ (b' : Nat) ∧ 0 ≤ m' ∧ m' < 2147483647 ∧ Po as b d b' }) :
    FnOk P w K mg base (L2.CX P w) (k + 1) f fd ps (SpS K n (drawSpc Pr Po)) := by
  refine Fn.okX S (fun vs H Q E h => by rw [h.1, hn]) fun cdv A outer sh H vs Q E hr h => ?_
  obtain ⟨t, ht, hw⟩ := hbody cdv A outer sh H E hr
  obtain ⟨hl, R, k0, ds, b, rl, e, hi, hW, ⟨a, l, as, rfl, rfl, hp⟩, hq, hx⟩ := h
  refine ⟨t, ht, ?_⟩
  obtain ⟨nal, cells, x, nn, m, ha, hlq, n1, n2, m1, m2⟩ := hi
  have hwa := hW a (.inl rfl)
  have hwl := hW l (.inr rfl)
  have S0 : SR ⟨K, wres a l, k0, H, false, fun _ => none⟩ { δ := startD N (.ref a :: as), m := StM a l cells x nn m, b := 0 } (L2.start N vs) k0 H := by
    refine ⟨Grow.refl e, trivial, hW, fun i d q => start_rep rl q, fun p hp => ?_, ?_, start_len rl.length, fun _ _ z => by cases z⟩
    · rcases List.mem_cons.mp hp with e1 | hp
      · subst e1
        exact ⟨hwa.1, .inr ⟨rfl, .inl rfl⟩, _, ha, .cons (.ref l) (.cons (.int x) (.cons (.int nn) (.cons (.int m) .nil)))⟩
      · have e1 := List.mem_singleton.mp hp
        subst e1
        exact ⟨hwl.1, .inr ⟨rfl, .inr rfl⟩, _, hlq, RepL.ofInts cells⟩
    · show [a, l].Nodup
      simp [nal]
  refine hw a l k0 as b cells x nn m hp (by rw [← rl.length, hl]) n1 n2 m1 m2 (L2.start N vs) k0 H S0 _ ⟨fun _ _ _ _ _ _ q => q.elim, fun _ _ _ _ _ _ q => q.elim, fun _ _ _ _ _ _ q => q.elim, fun v σ' k' h' d ς' S' _ r q => ?_⟩
  obtain ⟨cells', x', n', m', b', em, q1, q2, q3, q4, q5⟩ := q
  obtain ⟨_, _, va, ea, ra⟩ := S'.m (a, .lst [.ref l, .int x', .int n', .int m']) (by rw [em]; simp)
  obtain ⟨_, _, vl, el, rlq⟩ := S'.m (l, .lst (cells'.map D.int)) (by rw [em]; simp)
  have ea : h' a = some (.lst va) := ea
  have el : h' l = some (.lst vl) := el
  cases RepL.ints rlq
  cases ra with
  | cons r1 ra => cases r1; cases ra with
    | cons r2 ra => cases r2; cases ra with
      | cons r3 ra => cases r3; cases ra with
        | cons r4 ra => cases r4; cases ra; exact hq d b' ⟨a, as, rfl, q5⟩ v k' h' S'.g ⟨nal, cells', x', n', m', ea, el, q1, q2, q3, q4⟩ r
end
/-- a resource within the def's own one -/
structure SubR (c : Cn) (R1 : Res) : Prop where
  fr : c.fr = true
  w : ∀ a, R1.W a → c.R.W a
  i : ∀ b h, c.R.I b h → R1.I b h
  back : ∀ b b' h h', c.R.I b h → (∀ a o, ¬ R1.W a → h a = some o → h' a = some o) → R1.I b' h' → c.R.I b' h'
theorem SubR.self {c : Cn} (hf : c.fr = true) : SubR c c.R := ⟨hf, fun _ h => h, fun _ _ h => h, fun _ _ _ _ _ _ h => h⟩
section
variable {c : Cn} {ς : Sta} {Φ : D → Sta → Prop}
theorem we_callR {n : Nat} {s : Spc} {E : XK} {ta : TA} {X : XT} {R1 : Res} (V : SubR c R1) (hE : XOk c E X)
    (h : WL c ta ς fun ds ς1 => ds.length = n ∧ s.pre R1 ds ς1.b ∧ (∀ d b, s.post R1 ds ς1.b d b → Φ d { ς1 with b := b }) ∧ ∀ C ns fs b, s.exc R1 ds ς1.b C ns fs b → X C ns fs { ς1 with b := b }) : WE c (tCall (SpS c.K n s) [] E ta) ς Φ := fun σ k hh S Q z =>
  h σ k hh S _ fun vs k1 h1 ds ς1 S1 e1 r1 ⟨l, p1, p2, p3⟩ => by
    rw [List.append_nil]
    have wide : ∀ {k' h' : Hp} {b : Nat}, Grow R1.W k1 h1 k' h' → R1.I b h' → SR c { ς1 with b := b } σ k' h' := fun {k' h' b} g i =>
      S1.after (g.wide V.w) (V.back _ _ _ _ S1.i (fun a o nw q => g.hh a o nw q) i) V.fr
    refine ⟨by rw [r1.length, l], R1, k1, ds, ς1.b, r1, S1.kh, V.i _ _ S1.i, fun a z => ⟨S1.g.dj a (S1.w a (V.w a z)).1 (S1.w a (V.w a z)).2, S1.g.hd a (S1.w a (V.w a z)).2⟩, p1, fun d b q v k' h' g i r => ?_, fun C ns fs b q dd ws k' h' g i e r => ?_⟩
    · exact z v k' h' d _ (wide g i) (e1.trans g.kk) r (p2 d b q)
    · exact hE C ns fs dd ws σ k' h' _ (wide g i) e r (p3 C ns fs b q)
end
/-! ### the stream and tables of code objects -/
def strmT (a l : Addr) (Tb : List (Addr × Str)) : Res where
  W := fun z => z = a ∨ z = l ∨ ∃ q, (z, q) ∈ Tb
  I := fun b h => (a ≠ l ∧ StrmAt a l b h) ∧ LamX.Tabs Tb h
  st := fun b h h' st ⟨⟨nal, cells, x, n, m, h1, h2, h3⟩, t⟩ => ⟨⟨nal, cells, x, n, m, st _ _ (.inl (.inl rfl)) h1, st _ _ (.inl (.inr (.inl rfl))) h2, h3⟩, fun p hp => by
    obtain ⟨ps, e1, e2, e3⟩ := t p hp
    refine ⟨ps, st _ _ (.inl (.inr (.inr ⟨p.2, hp⟩))) e1, e2, fun pos cv hc => ?_⟩
    obtain ⟨c, q1, q2⟩ := e3 pos cv hc
    exact ⟨c, q1, st _ _ (.inr trivial) q2⟩⟩
theorem strmT_sub {c : Cn} {a l : Addr} {Tb : List (Addr × Str)} (hf : c.fr = true) (hR : c.R = strmT a l Tb) : SubR c (strm a l) := by
  refine ⟨hf, fun z hz => ?_, fun b h hi => ?_, fun b b' h h' hi k i => ?_⟩
  · rw [hR]
    rcases hz with e | e
    · exact .inl e
    · exact .inr (.inl e)
  · rw [hR] at hi
    exact hi.1
  · rw [hR] at hi ⊢
    refine ⟨i, fun p hp => ?_⟩
    obtain ⟨⟨nal, cells, x, n, m, h1, h2, h3⟩, t⟩ := hi
    obtain ⟨ps, e1, e2, e3⟩ := t p hp
    have nw : ∀ {z : Addr} {o : HO}, (∀ vs, o ≠ .lst vs) → h z = some o → ¬ (strm a l).W z := fun {z o} ne q w => by
      rcases w with w | w
      · rw [w, h1] at q
        exact ne _ (Option.some.inj q).symm
      · rw [w, h2] at q
        exact ne _ (Option.some.inj q).symm
    refine ⟨ps, k _ _ (nw (by nofun) e1) e1, e2, fun pos cv hc => ?_⟩
    obtain ⟨cc, q1, q2⟩ := e3 pos cv hc
    exact ⟨cc, q1, k _ _ (nw (fun vs z => by unfold LamX.CodeO at z; cases z) q2) q2⟩
theorem strmT_tab {c : Cn} {a l : Addr} {Tb : List (Addr × Str)} (hf : c.fr = true) (hR : c.R = strmT a l Tb) (k0 : ∀ a ps, c.k0 a ≠ some (.tbl ps)) (h0 : ∀ a ps, c.h0 a = some (.tbl ps) → c.R.W a) : TabR c Tb := by
  refine ⟨k0, h0, hf, fun b h hi => ?_, fun b h h' hi e t => ?_, fun b h z hi hz => ?_⟩
  · rw [hR] at hi
    exact hi.2
  · rw [hR] at hi ⊢
    obtain ⟨⟨nal, cells, x, n, m, h1, h2, h3⟩, _⟩ := hi
    exact ⟨⟨nal, cells, x, n, m, e _ _ h1 (by nofun), e _ _ h2 (by nofun), h3⟩, t⟩
  · rw [hR] at hi hz
    obtain ⟨⟨nal, cells, x, n, m, h1, h2, h3⟩, t⟩ := hi
    rcases hz with e | e | ⟨q, hq⟩
    · rw [e, h1]; simp
    · rw [e, h2]; simp
    · obtain ⟨ps, e1, _⟩ := t _ hq
      rw [e1]; simp
/-- the law's own start: the script's numbers into a stream -/
def spStart (K : PySem.W.Frag) : Sp := fun vs H Q _ => ∃ (a : Addr) (ns : List Int), vs = [.ref a] ∧ SqL K H a (ns.map V.int) ∧
  ∀ l s, H l = none → H s = none → l ≠ s → Q (.ref s) (upd (upd H l (.lst (ns.map V.int))) s (.lst [.ref l, .int 0, .int 0, .int 11]))
end DL

set_option Elab.async false
set_option linter.all false
set_option maxRecDepth 100000
set_option maxHeartbeats 4000000
namespace DL
open PySem PySem.Spec PyProof.Rows L2 DX
section
variable {c : Cn} {ς : Sta} {Φ : D → Sta → Prop} {Ψ : Psi} {a : Addr} {d0 d1 d2 d3 d : D} {Φ' : Sta → Prop}
theorem we_s0 (h0 : ς.δ[0]? = some (some (.ref a))) (hm : ς.m[0]? = some (a, .lst [d0, d1, d2, d3])) (q : Φ d0 ς) : WE c (tOp (rIxK c.K) (tVar 0) (tC (.int 0))) ς Φ :=
  we_ixM (j := 0) (we_var h0 ⟨rfl, we_int ⟨0, rfl, hm, atI_0, q⟩⟩)
theorem we_s1 (h0 : ς.δ[0]? = some (some (.ref a))) (hm : ς.m[0]? = some (a, .lst [d0, d1, d2, d3])) (q : Φ d1 ς) : WE c (tOp (rIxK c.K) (tVar 0) (tC (.int 1))) ς Φ :=
  we_ixM (j := 0) (we_var h0 ⟨rfl, we_int ⟨1, rfl, hm, atI_1, q⟩⟩)
theorem we_s2 (h0 : ς.δ[0]? = some (some (.ref a))) (hm : ς.m[0]? = some (a, .lst [d0, d1, d2, d3])) (q : Φ d2 ς) : WE c (tOp (rIxK c.K) (tVar 0) (tC (.int 2))) ς Φ :=
  we_ixM (j := 0) (we_var h0 ⟨rfl, we_int ⟨2, rfl, hm, atI_2, q⟩⟩)
theorem we_s3 (h0 : ς.δ[0]? = some (some (.ref a))) (hm : ς.m[0]? = some (a, .lst [d0, d1, d2, d3])) (q : Φ d3 ς) : WE c (tOp (rIxK c.K) (tVar 0) (tC (.int 3))) ς Φ :=
  we_ixM (j := 0) (we_var h0 ⟨rfl, we_int ⟨3, rfl, hm, atI_3, q⟩⟩)
theorem wg_s1 (hI : ∀ b h h', c.fr = false → c.R.I b h → c.R.I b h') (h0 : ς.δ[0]? = some (some (.ref a))) (hm : ς.m[0]? = some (a, .lst [d0, d1, d2, d3])) (q : Φ' { ς with m := ς.m.set 0 (a, .lst [d0, d, d2, d3]) }) : WG c (gSub (tVar 0) (tC (.int 1)) rSetL) d ς Φ' :=
  wg_sub (j := 0) (i := 1) hI (we_var h0 ⟨rfl, we_int ⟨1, rfl, rfl, hm, q⟩⟩)
theorem wg_s2 (hI : ∀ b h h', c.fr = false → c.R.I b h → c.R.I b h') (h0 : ς.δ[0]? = some (some (.ref a))) (hm : ς.m[0]? = some (a, .lst [d0, d1, d2, d3])) (q : Φ' { ς with m := ς.m.set 0 (a, .lst [d0, d1, d, d3]) }) : WG c (gSub (tVar 0) (tC (.int 2)) rSetL) d ς Φ' :=
  wg_sub (j := 0) (i := 2) hI (we_var h0 ⟨rfl, we_int ⟨2, rfl, rfl, hm, q⟩⟩)
theorem wg_s3 (hI : ∀ b h h', c.fr = false → c.R.I b h → c.R.I b h') (h0 : ς.δ[0]? = some (some (.ref a))) (hm : ς.m[0]? = some (a, .lst [d0, d1, d2, d3])) (q : Φ' { ς with m := ς.m.set 0 (a, .lst [d0, d1, d2, d]) }) : WG c (gSub (tVar 0) (tC (.int 3)) rSetL) d ς Φ' :=
  wg_sub (j := 0) (i := 3) hI (we_var h0 ⟨rfl, we_int ⟨3, rfl, rfl, hm, q⟩⟩)
theorem toPy_ints : ∀ ns : List Int, toPyL (ns.map D.int) = ns.map PyData.int
  | [] => rfl
  | n :: ns => by
    show _ :: _ = _
    rw [toPy_ints ns]
    rfl
theorem shaped_ints (ns : List Int) : SeqAt.shaped (D.lst (ns.map D.int)).toPy = true := by
  show SeqAt.shaped (.list (toPyL (ns.map D.int))) = true
  rw [toPy_ints]
  induction ns with
  | nil => rfl
  | cons n ns ih => exact ih
/-- the stream's numbers are none -/
theorem we_sne {l : Addr} {cells : List Int} {te : TE} (h : WE c te ς fun x ς1 => x = .ref l ∧ ς1.m[1]? = some (l, .lst (cells.map D.int)) ∧ Φ (.bl (!cells.isEmpty)) ς1) : WE c (tOp (rNeK c.K) te (tLst tNil)) ς Φ :=
  we_neM (j := 1) fun σ k hh S Q z => h σ k hh S Q fun v k' h' x ς' S' e r ⟨h1, h2, h3⟩ => z v k' h' x ς' S' e r ⟨h1, we_lst (wl_nil (szB rfl ⟨h2, shaped_ints _, rfl, by
    have e : (!PyData.eqv (D.lst (cells.map D.int)).toPy (D.lst []).toPy) = !cells.isEmpty := by
      show (!PyData.eqv (.list (toPyL (cells.map D.int))) (.list [])) = _
      cases cells <;> rfl
    rw [e]
    exact h3⟩))⟩
theorem we_spop {l : Addr} {cc : Int} {cells : List Int} {te : TE} (hI : ∀ b h h', c.fr = false → c.R.I b h → c.R.I b h') (h : WE c te ς fun x ς1 => x = .ref l ∧ ς1.m[1]? = some (l, .lst ((cc :: cells).map D.int)) ∧ Φ (.int cc) { ς1 with m := ς1.m.set 1 (l, .lst (cells.map D.int)) }) :
    WE c (tBM c.K "list" rPopAt te (tCons (tC (.int 0)) tNil)) ς Φ :=
  we_pop (j := 1) (i := 0) hI fun σ k hh S Q z => h σ k hh S Q fun v k' h' x ς' S' e r ⟨h1, h2, h3⟩ => z v k' h' x ς' S' e r ⟨h1, ⟨_, h2⟩, we_int ⟨rfl, by decide, h2, rfl, h3⟩⟩
end
end DL

set_option Elab.async false
set_option linter.all false
set_option maxRecDepth 100000
set_option maxHeartbeats 4000000
namespace DL
open PySem PySem.Spec PyProof.Rows L2 DX
/-! ### {} -/
section
variable {c : Cn} {ς : Sta} {Φ : D → Sta → Prop} {K : PySem.W.Frag} {Φ' : D → Prop}
theorem we_dnew (q : Φ (.dct [] []) ς) : WE c tDNewK ς Φ := fun σ k h S Q z p hp => by
  have g : Grow No k h (upd k p (.dK [])) (upd h p (.dK [])) := Grow.new S.kh hp (by nofun)
  exact z _ _ _ _ ς (S.grow g) g.kk (.dct (kvs := []) upd_same rfl .nil) q
def rDctP (K : PySem.W.Frag) : List V → Hp → VK → Prop := fun xs H Q => ∃ (a : Addr) (ps : List Addr) (kvs : List (Key × V)), xs = [.ref a] ∧ SqL K H a (ps.map V.ref) ∧ Paired (fun p kv => SqT K H p [kV kv.1, kv.2]) ps kvs ∧
    ∀ p, H p = none → Q (.ref p) (upd H p (.dK (mergeK [] kvs)))
theorem call_dctP {X : Cx} (h : X.K = K := by rfl) (hc : X.calm = true := by rfl) : CallR X (.type "dict") (rDctP K) := by subst h; exact call_dictP hc
theorem rc_dct0 (q : Φ' (.dct [] [])) : RC K (rDctP K) [.lst []] Φ' := fun k h vs e r Q z => by
  cases r with
  | cons r1 r2 =>
    cases r2
    cases r1 with
    | lst h1 r1 =>
      cases r1
      refine ⟨_, [], [], rfl, SqL.of (e _ _ h1), .nil, fun p n => ?_⟩
      have g : Grow No k h (upd k p (.dK [])) (upd h p (.dK [])) := Grow.new e n (by nofun)
      exact z _ _ _ _ g (.dct (kvs := []) upd_same rfl .nil) q
theorem rd_eq_dct0 (q : Φ' (.bl true)) : RD K (rEqK K) (.dct [] []) (.dct [] []) Φ' := fun k h v1 v2 e r1 r2 Q z => by
  cases r1 with
  | dct e1 m1 _ => cases r2 with
    | dct e2 m2 _ =>
      cases List.map_eq_nil_iff.mp m1
      cases List.map_eq_nil_iff.mp m2
      exact .inr (.inr ⟨_, _, [], rfl, rfl, e _ _ e1, e _ _ e2, List.nodup_nil, fun p hp => absurd hp (by simp), z _ k h _ (Grow.refl e) (.bl _) q⟩)
def isKs (d : D) (ns : List String) : Option Bool := (tyN d).map fun s => ns.any fun n => isB s n
theorem we_isiLT {te : TE} (h : WE c te ς fun d ς1 => ∃ r, isKs d ["list", "tuple"] = some r ∧ Φ (.bl r) ς1) : WE c (tCB (rIsiT c.K) (tCons te (tCons (tTup (tCons (tC (.ty "list")) (tCons (tC (.ty "tuple")) tNil))) tNil))) ς Φ :=
  we_isiT (ns := ["list", "tuple"]) (by simp [Knd]) (by decide) fun σ k hh S Q z => h σ k hh S Q fun v k' h' d ς' S' e r ⟨b, h1, h2⟩ => by
    obtain ⟨s, e1, e2⟩ := Option.map_eq_some_iff.mp h1
    exact z v k' h' d ς' S' e r ⟨s, e1, by rw [e2]; exact h2⟩
theorem we_isiILT {te : TE} (h : WE c te ς fun d ς1 => ∃ r, isKs d ["int", "list", "tuple"] = some r ∧ Φ (.bl r) ς1) : WE c (tCB (rIsiT c.K) (tCons te (tCons (tTup (tCons (tC (.ty "int")) (tCons (tC (.ty "list")) (tCons (tC (.ty "tuple")) tNil)))) tNil))) ς Φ :=
  we_isiT (ns := ["int", "list", "tuple"]) (by simp [Knd]) (by decide) fun σ k hh S Q z => h σ k hh S Q fun v k' h' d ς' S' e r ⟨b, h1, h2⟩ => by
    obtain ⟨s, e1, e2⟩ := Option.map_eq_some_iff.mp h1
    exact z v k' h' d ς' S' e r ⟨s, e1, by rw [e2]; exact h2⟩
theorem wi_seqV {i : Nat} {d : D} {l : List D} {Ψ : List D → Sta → Prop} (h0 : ς.δ[i]? = some (some d)) (hs : seqOf d = some l) (q : Ψ l ς) : WI c (iSeq c.K (tVar i)) ς Ψ := by
  cases d <;> cases hs
  · exact wi_seqL (we_var h0 ⟨_, rfl, q⟩)
  · exact wi_seqT (we_var h0 ⟨_, rfl, q⟩)
/-- a comprehension over {} -/
theorem we_lcD0 {i : Nat} {g : TG} {tt : TT} {te : TE} {vs : List Nat} (h0 : ς.δ[i]? = some (some (.dct [] []))) (q : Φ (.lst []) ς) : WE c (tLockE (tLc (iKeys (tVar i)) g tt te vs)) ς Φ := fun σ k h S Q z => by
  obtain ⟨v, hv, rv⟩ := S.s i _ h0
  cases rv with
  | dct ek en er =>
    cases List.map_eq_nil_iff.mp en
    rename_i a
    have ha : h a = some (.dK []) := S.kh _ _ ek
    refine ⟨a, .dK [], ha, trivial, fun od => ⟨_, hv, a, od, rfl, .inl ⟨[], upd_same, fun L nL => ?_⟩⟩⟩
    have na : L ≠ a := fun e => by rw [e, upd_same] at nL; cases nL
    have nL' : h L = none := by rw [upd_ne na] at nL; exact nL
    refine ⟨fun i m H => i = 0 ∧ H = upd (upd h a (.frz od (.dK []))) L (.lst []), ⟨0, rfl, rfl⟩, ?_⟩
    rintro i m H ⟨rfl, rfl⟩
    refine .inl ⟨⟨?_, Nat.le_refl _⟩, ?_, ?_⟩
    · rw [upd_ne (Ne.symm na), upd_same]
    · rw [upd_ne (Ne.symm na), upd_same]
    · have e : upd (upd (upd h a (.frz od (.dK []))) L (.lst [])) a (.dK []) = upd h L (.lst []) := by
        funext b
        by_cases hb : b = a
        · rw [hb, upd_same, upd_ne (Ne.symm na), ha]
        · rw [upd_ne hb]
          by_cases hl : b = L
          · rw [hl, upd_same, upd_same]
          · rw [upd_ne hl, upd_ne hb, upd_ne hl]
      rw [e]
      have g : Grow No k h (upd k L (.lst [])) (upd h L (.lst [])) := Grow.new S.kh nL' (by nofun)
      exact z _ _ _ _ ς (S.grow g) g.kk (.lst (vs := []) upd_same .nil) q
end
end DL
namespace DL
open PySem PySem.Spec PyProof.Rows L2 DX
section
variable {c : Cn} {Ψ : Psi} {Xo : XT} {C : Addr} {ns : List Str} {f : Str} {fs : List D} {ς : Sta} {cv : Value} {oi : Option Nat} {ts : Addr → Value → Option Addr → TS} {l : List HC}
theorem hnd_skip (e : PySem.W.exmOne c.K (.ref C) cv = some false) (r : HndOk c Ψ Xo C ns fs ς l) : HndOk c Ψ Xo C ns fs ς ((cv, oi, ts) :: l) := ⟨false, e, fun z => (nomatch z), fun _ => r⟩
theorem hnd_take {i : Nat} (e : PySem.W.exmOne c.K (.ref C) cv = some true) (r : ∀ a x, WS c (ts a (.ref C) (some x)) { ς with δ := ς.δ.set i (some (.exc a x C (f :: ns) fs)) } { nx := fun ς => Ψ.nx { ς with δ := ς.δ.set i none }, rt := Ψ.rt, bk := fun ς => Ψ.bk { ς with δ := ς.δ.set i none }, ct := fun ς => Ψ.ct { ς with δ := ς.δ.set i none } }) :
    HndOk c Ψ Xo C (f :: ns) fs ς ((cv, some i, ts) :: l) := ⟨true, e, fun _ => ⟨fun a x _ => r a x, fun z => (nomatch z)⟩, fun z => (nomatch z)⟩
theorem hnd_take0 (e : PySem.W.exmOne c.K (.ref C) cv = some true) (r : ∀ a, WS c (ts a (.ref C) none) ς Ψ) : HndOk c Ψ Xo C [] fs ς ((cv, none, ts) :: l) :=
  ⟨true, e, fun _ => ⟨fun a x z => absurd rfl z, fun _ a => r a⟩, fun z => (nomatch z)⟩
/-- a clause without a name for an exception with fields -/
theorem hnd_takeN (e : PySem.W.exmOne c.K (.ref C) cv = some true) (r : ∀ a x, WS c (ts a (.ref C) (some x)) ς Ψ) : HndOk c Ψ Xo C (f :: ns) fs ς ((cv, none, ts) :: l) :=
  ⟨true, e, fun _ => ⟨fun a x _ => r a x, fun z => (nomatch z)⟩, fun z => (nomatch z)⟩
end
end DL

set_option Elab.async false
set_option linter.all false
set_option maxRecDepth 100000
set_option maxHeartbeats 4000000
namespace DL
open PySem PySem.Spec PyProof.Rows L2 DX
/-! ### the law's own state behind its start -/
abbrev lawC (K : PySem.W.Frag) (s l tL : Addr) (q : Str) (h : Hp) : Cn := ⟨K, strmT s l [(tL, q)], fun _ => none, fun z => if z = s ∨ z = l ∨ z = tL then h z else none, true, fun _ => none⟩
theorem lawC_tab {K : PySem.W.Frag} {s l tL : Addr} {q : Str} {h : Hp} {vs us : List V} (hs : h s = some (.lst vs)) (hl : h l = some (.lst us)) : TabR (lawC K s l tL q h) [(tL, q)] := by
  refine strmT_tab rfl rfl (fun a ps z => by cases z) fun a ps z => ?_
  have z : (if a = s ∨ a = l ∨ a = tL then h a else none) = some (.tbl ps) := z
  split at z
  · rename_i hc
    rcases hc with e | e | e
    · exact .inl e
    · exact .inr (.inl e)
    · exact .inr (.inr ⟨q, by rw [e]; exact List.mem_singleton.mpr rfl⟩)
  · cases z
theorem law_sr {K : PySem.W.Frag} {H : Hp} {l s tL : Addr} {q : Str} {ns : List Int} {σ : L2.St} {δ : List (Option D)} (hl : H l = none) (hs : H s = none) (hne : l ≠ s) (ht : H tL = some (.tbl #[])) (hσ : ∀ (i : Nat) (d : D), δ[i]? = some (some d) → d = .ref s ∧ σ[i]? = some (some (V.ref s))) (hlen : δ.length = σ.length) :
    SR (lawC K s l tL q (upd (upd H l (.lst (ns.map V.int))) s (.lst [.ref l, .int 0, .int 0, .int 11]))) { δ := δ, b := 0 } σ (fun _ => none) (upd (upd H l (.lst (ns.map V.int))) s (.lst [.ref l, .int 0, .int 0, .int 11])) := by
  have tl : tL ≠ l := fun e => by rw [e, hl] at ht; cases ht
  have ts : tL ≠ s := fun e => by rw [e, hs] at ht; cases ht
  have e1 : upd (upd H l (.lst (ns.map V.int))) s (.lst [.ref l, .int 0, .int 0, .int 11]) s = some (.lst [.ref l, .int 0, .int 0, .int 11]) := upd_same
  have e2 : upd (upd H l (.lst (ns.map V.int))) s (.lst [.ref l, .int 0, .int 0, .int 11]) l = some (.lst (ns.map V.int)) := by rw [upd_ne hne, upd_same]
  have e3 : upd (upd H l (.lst (ns.map V.int))) s (.lst [.ref l, .int 0, .int 0, .int 11]) tL = some (.tbl #[]) := by rw [upd_ne ts, upd_ne tl]; exact ht
  refine ⟨⟨Same.refl _, fun _ _ z => (nomatch z), fun z o _ hz => ?_, fun z hz => ?_, fun _ z _ => z, fun _ _ z => (nomatch z)⟩, ⟨⟨hne.symm, ns, 0, 0, 11, e1, e2, by omega, by simp, by omega, by omega⟩, fun p hp => ?_⟩, fun z hz => ⟨rfl, ?_⟩, fun i d hi => ?_, fun p hp => absurd hp (by simp), List.nodup_nil, hlen, fun _ _ z => (nomatch z)⟩
  · have hz : (if z = s ∨ z = l ∨ z = tL then _ else none) = some o := hz
    split at hz
    · exact hz
    · cases hz
  · have hz : (if z = s ∨ z = l ∨ z = tL then _ else none) ≠ none := hz
    split at hz
    · exact hz
    · exact absurd rfl hz
  · rw [List.mem_singleton.mp hp]
    exact LamX.TabS.nil e3
  · show (if z = s ∨ z = l ∨ z = tL then _ else none) ≠ none
    rcases hz with e | e | ⟨q', hq⟩
    · rw [if_pos (.inl e), e, e1]; simp
    · rw [if_pos (.inr (.inl e)), e, e2]; simp
    · have e : z = tL := congrArg Prod.fst (List.mem_singleton.mp hq)
      rw [if_pos (.inr (.inr e)), e, e3]; simp
  · obtain ⟨rfl, h2⟩ := hσ i d hi
    exact ⟨_, h2, .ref s⟩
theorem enter {c : Cn} {ts : TS} {ς : Sta} {Ψ : Psi} {σ : L2.St} {k h : Hp} {E1 : Ends} (w : WS c ts ς Ψ) (S : SR c ς σ k h) (e : EndOk c k Ψ E1) : ts E1 σ h := w σ k h S E1 e
/-- draws -/
abbrev drawS : Spc := drawSpc (fun as b => ∃ n : Int, as = [.int n] ∧ 0 < n ∧ n ≤ 1000000 ∧ b ≤ 1000000000000) (fun as b d b' => ∃ n x : Int, as = [.int n] ∧ d = .int x ∧ 0 ≤ x ∧ x < n ∧ b' = b + 1)
abbrev pickS : Spc := drawSpc (fun as b => ∃ l : List D, as = [.lst l] ∧ 0 < l.length ∧ l.length ≤ 1000000 ∧ b ≤ 1000000000000) (fun as b d b' => ∃ l : List D, as = [.lst l] ∧ d ∈ l ∧ b' = b + 1)
section
variable {c : Cn} {ς : Sta} {Φ : D → Sta → Prop} {s l : Addr} {E : XK}
theorem we_draw {n : Int} {j : Nat} (V : SubR c (strm s l)) (h0 : ς.δ[j]? = some (some (.ref s))) (h1 : 0 < n) (h2 : n ≤ 1000000) (hb : ς.b ≤ 1000000000000) (q : ∀ x, 0 ≤ x → x < n → Φ (.int x) { ς with b := ς.b + 1 }) :
    WE c (tCall (SpS c.K 2 drawS) [] E (tCons (tVar j) (tCons (tC (.int n)) tNil))) ς Φ := by
  refine we_callR V (X := fun _ _ _ _ => False) xok0 (wl_cons (we_var h0 (wl_cons (we_int (wl_nil ⟨rfl, ⟨s, l, _, rfl, rfl, n, rfl, h1, h2, hb⟩, ?_, fun _ _ _ _ z => z⟩)))))
  rintro d b ⟨a, as, e, n', x, e2, rfl, x1, x2, rfl⟩
  cases e
  cases e2
  exact q x x1 x2
theorem we_pick {j : Nat} {te : TE} (V : SubR c (strm s l)) (h0 : ς.δ[j]? = some (some (.ref s))) (h : WE c te ς fun d ς1 => ∃ ll, d = .lst ll ∧ 0 < ll.length ∧ ll.length ≤ 1000000 ∧ ς1.b ≤ 1000000000000 ∧ ∀ x ∈ ll, Φ x { ς1 with b := ς1.b + 1 }) :
    WE c (tCall (SpS c.K 2 pickS) [] E (tCons (tVar j) (tCons te tNil))) ς Φ := by
  refine we_callR V (X := fun _ _ _ _ => False) xok0 (wl_cons (we_var h0 (wl_cons fun σ k hh S Q z => h σ k hh S Q fun v k' h' d ς' S' e r ⟨ll, ed, h1, h2, h3, h4⟩ => z v k' h' d ς' S' e r (wl_nil ⟨rfl, ⟨s, l, _, rfl, rfl, ll, by rw [ed], h1, h2, h3⟩, ?_, fun _ _ _ _ z => z⟩))))
  rintro d' b ⟨a, as, e, ll', e2, x1, rfl⟩
  cases e
  subst ed
  cases e2
  exact h4 d' x1
end
end DL
namespace DL
open PySem PySem.Spec PyProof.Rows L2 DX
section
variable {c : Cn} {ς : Sta} {Ψ : Psi}
theorem ws_cut {a t : TS} (M : Sta → Prop) (h1 : WS c a ς { Ψ with nx := M }) (h2 : ∀ ς', M ς' → WS c t ς' Ψ) : WS c (tSeq a t) ς Ψ := ws_seq (ws_mono h1 (fun ς' z => h2 ς' z) (fun _ _ z => z) (fun _ z => z) fun _ z => z)
theorem ws_cut2 {a b t : TS} (M : Sta → Prop) (h1 : WS c (tSeq a b) ς { Ψ with nx := M }) (h2 : ∀ ς', M ς' → WS c t ς' Ψ) : WS c (tSeq a (tSeq b t)) ς Ψ := fun σ k h S E1 z =>
  (ws_cut (a := tSeq a b) (t := t) M h1 h2) σ k h S E1 z
end
end DL
namespace DL
open PySem PySem.Spec PyProof.Rows L2 DX
/-- the law's slots behind its start -/
def law_δ (st : Addr) (n : Nat) : List (Option D) := none :: some (.ref st) :: List.replicate n none
theorem law_slots {a st : Addr} {N : List Str} {n : Nat} (hN : N.length = n + 2) : (∀ (i : Nat) (d : D), (law_δ st n)[i]? = some (some d) → d = .ref st ∧ ((L2.start N [.ref a]).set 1 (some (V.ref st)))[i]? = some (some (V.ref st))) ∧ (law_δ st n).length = ((L2.start N [.ref a]).set 1 (some (V.ref st))).length := by
  have hlen : (L2.start N [V.ref a]).length = n + 2 := by
    unfold L2.start
    simp
    omega
  refine ⟨fun i d hi => ?_, by unfold law_δ; rw [List.length_set, hlen]; simp⟩
  match i, hi with
  | 0, hi => cases hi
  | 1, hi =>
    cases hi
    exact ⟨rfl, by rw [List.getElem?_set_self (by rw [hlen]; omega)]⟩
  | i + 2, hi =>
    have hi : (List.replicate n (none : Option D))[i]? = some (some d) := hi
    rw [List.getElem?_replicate] at hi
    split at hi <;> cases hi
end DL

set_option Elab.async false
set_option linter.all false
set_option maxRecDepth 100000
set_option maxHeartbeats 4000000
/-! own classes: made, methods called, own operators, isinstance -/
namespace DL
open PySem PySem.Spec PyProof.Rows L2
section
variable {X : Cx} {E : XK} {x m : Str} {C : Addr} {k j : Nat} {sp : Sp} {e o : Expr} {es : List Expr} {t : TA} {to : TE} {p apos pos : Pos}
/-- C(..) -/
theorem pe_mkx (c : MakX X.prog X.w X.K X.mg X.base k x C sp) (hr : Room j X.A) (hk : k + 1 ≤ j) (hg : Gl X x) (hx : Passes (L2.CX X.prog X.w) X E) (ha : PA X (e :: es) t)
    (hdb : (x == ("__debug__" : Str)) = false := by decide) (hs : starEach (e :: es) X.env = (false, eval e X.env) :: starEach es X.env := by rfl) (hpl : (backTo pos (starEach es X.env)).any (·.1) = false := by rfl) :
    PE X (.Call (.Name x p) (e :: es) [] pos) (tMake C sp [] E t) := by
  obtain ⟨f, fd, ps, M, F, hm, hb⟩ := c.ex
  exact pe_make M F (hr.mono hk) hg hm hb .nil hx ha hdb hs hpl
/-- o.m(..) -/
theorem pe_mtx {pl : Sem Bool} (he : PE X o to) (c : MetX X.prog X.w X.K X.mg X.base k C m sp) (hr : Room j X.A) (hk : k ≤ j) (hx : Passes (L2.CX X.prog X.w) X E) (ha : PA X (e :: es) t)
    (hst : starEach (e :: es) X.env = (false, eval e X.env) :: starEach es X.env := by rfl) (hpl : (backTo pos (starEach es X.env)).any (·.1) = false := by rfl)
    (ht : eval (.Call (.Attribute o m apos) (e :: es) [] pos) X.env = (do
      let ov ← eval o X.env
      standAt apos.atName
      let (f, first) ← holding [ov] (getMethod ov m pl)
      callWith pos f first (backTo pos (starEach (e :: es) X.env)) (backToKw pos (keywordEach [] X.env))) := by rfl) :
    PE X (.Call (.Attribute o m apos) (e :: es) [] pos) (tMeth C m sp [] E to t) := by
  obtain ⟨f, fd, ps, cl, hm, F, hb⟩ := c.ex
  exact pe_meth he cl hm F (hr.mono hk) hb .nil hx ha hst hpl ht
theorem pe_mtx0 {pl : Sem Bool} (he : PE X o to) (c : MetX X.prog X.w X.K X.mg X.base k C m sp) (hr : Room j X.A) (hk : k ≤ j) (hx : Passes (L2.CX X.prog X.w) X E)
    (ht : eval (.Call (.Attribute o m apos) [] [] pos) X.env = (do
      let ov ← eval o X.env
      standAt apos.atName
      let (f, first) ← holding [ov] (getMethod ov m pl)
      callWith pos f first (backTo pos (starEach [] X.env)) (backToKw pos (keywordEach [] X.env))) := by rfl) :
    PE X (.Call (.Attribute o m apos) [] [] pos) (tMeth C m sp [] E to tNil) := by
  obtain ⟨f, fd, ps, cl, hm, F, hb⟩ := c.ex
  exact pe_meth0 he cl hm F (hr.mono hk) hb .nil hx ht
end
/-! ### own operators -/
section
variable {X : Cx} {E : XK} {C : Addr} {k j : Nat} {sp : Sp}
/-- x == y, by x's own def -/
def rEqI (K : PySem.W.Frag) (C : Addr) (sp : Sp) (E : XK) : R2 := fun x y H Q => ∃ a dx fs tb, x = .ref a ∧ H a = some (.ins C dx fs) ∧ TyX K H y tb ∧ PySem.W.notFirst K C tb = true ∧ sp [x, y] H Q E
theorem op_eqI (c : MetX X.prog X.w X.K X.mg X.base k C "__eq__" sp) (hr : Room j X.A) (hk : k ≤ j) (hx : Passes (L2.CX X.prog X.w) X E) : OpR X (compareOp .Eq) (rEqI X.K C sp E) := by
  intro pins s σ H x y v u Q I rx ry h
  obtain ⟨f, fd, ps, cl, hm, F, hb⟩ := c.ex
  obtain ⟨a, dx, fs, tb, rfl, ha, ty, hn, q⟩ := h
  cases (show v = Value.ref a from rx)
  obtain ⟨mA, O, _⟩ := ins_get I.hok ha
  obtain ⟨od, J, _⟩ := O.look
  obtain ⟨Pk, Z, pz, _⟩ := kit_of I ry ty
  obtain ⟨m, hF⟩ := I.fr
  refine PySem.W.cmp_K (op := .Eq) (tb := tb) hr.units0 hF I.ok.mod.kin J (Z.ty _ _ I.kIn pz) hn hm.at_ hm.fn ?_
  refine wpAny_mono (run_fn (us := [.ref a, u]) (vs := [.ref a, y]) F (hr.mono hk) hb .nil hx I (.cons rfl (.cons ry .nil)) q) (fun w s' z => ?_) fun _ _ x => x
  obtain ⟨z', H', I', rz, qz⟩ := z
  exact SlX.cmpback rz ⟨z', H', I', rz, qz⟩
/-- x + y and the like -/
def rBinI (C : Addr) (sp : Sp) (E : XK) : R2 := fun x y H Q => ∃ a dx fs b dy gs, x = .ref a ∧ y = .ref b ∧ H a = some (.ins C dx fs) ∧ H b = some (.ins C dy gs) ∧ sp [x, y] H Q E
theorem op_binI {op : Operator} {nm : Str} (hop : PySem.dunder op.info.2 = nm) (c : MetX X.prog X.w X.K X.mg X.base k C nm sp) (hc : PySem.W.selfFirst X.K C = true) (hr : Room j X.A) (hk : k ≤ j) (hx : Passes (L2.CX X.prog X.w) X E) : OpR X (binaryOp op) (rBinI C sp E) := by
  intro pins s σ H x y v u Q I rx ry h
  obtain ⟨f, fd, ps, cl, hm, F, hb⟩ := c.ex
  obtain ⟨a, dx, fs, b, dy, gs, rfl, rfl, ha, hb', q⟩ := h
  cases (show v = Value.ref a from rx)
  cases (show u = Value.ref b from ry)
  obtain ⟨mA, O, _⟩ := ins_get I.hok ha
  obtain ⟨od, J, _⟩ := O.look
  obtain ⟨mB, O', _⟩ := ins_get I.hok hb'
  obtain ⟨od', J', _⟩ := O'.look
  obtain ⟨m, hF⟩ := I.fr
  refine PySem.W.binop_K (op := op) hF I.ok.mod.kin J J'.type hc (by rw [hop]; exact hm.at_) hm.fn ?_
  refine wpAny_mono (run_fn (us := [.ref a, .ref b]) (vs := [.ref a, .ref b]) F (hr.mono hk) hb .nil hx I (.cons rfl (.cons rfl .nil)) q) (fun w s' z => ?_) fun _ _ x => x
  obtain ⟨z', H', I', rz, qz⟩ := z
  exact SlX.cmpback rz ⟨z', H', I', rz, qz⟩
/-- what x != y asks of a class with an own __eq__ alone -/
structure NeC (K : PySem.W.Frag) (C : Addr) : Prop where
  ex : ∃ nm q N bs sn sub ab col dd k0 k1 k2 k3 k5 newId, K.lookup C = some (excClassObj nm q C N bs [.type "object"] true sn sub ab col dd k0 k1 k2 k3 k5 newId) ∧ PySem.W.nsOkIn K N = true ∧ PySem.W.nsIn K N "__ne__" = some none ∧ ∃ f, PySem.W.nsIn K N "__eq__" = some (some (.ref f)) ∧ PySem.W.findIn K (.ref C) "__eq__" = some (some (.ref f)) ∧ ∃ oc, K.lookup f = some oc ∧ oc.cls = .type "function"
theorem ns_at {K : PySem.W.Frag} {h : Heap} {N : Addr} {x : Str} {v : Value} (X : K.In h) {m : Str → Option Value} (G : h.Ns N m) (e : PySem.W.nsIn K N x = some (some v)) : m x = some v := by
  obtain ⟨o, es, ep, ho, hd, _, hf⟩ := G
  unfold PySem.W.nsIn at e
  split at e
  · rename_i ho2
    have e2 := X _ _ ho2
    rw [ho] at e2
    cases e2
    cases hd
    split at e
    · rename_i en he
      cases e
      rw [← hf]
      unfold nsFind findBy
      rw [← Array.find?_toList, he]
      rfl
    · split at e <;> cases e
  · cases e
def rNeI (C : Addr) (sp : Sp) (E : XK) : R2 := fun x y H Q => ∃ a dx fs b dy gs, x = .ref a ∧ y = .ref b ∧ H a = some (.ins C dx fs) ∧ H b = some (.ins C dy gs) ∧ sp [x, y] H (fun v H' => ∃ b, v = .bl b ∧ Q (.bl (!b)) H') E
theorem op_neI (c : MetX X.prog X.w X.K X.mg X.base k C "__eq__" sp) (n : NeC X.K C) (hr : Room j X.A) (hk : k + 1 ≤ j) (hx : Passes (L2.CX X.prog X.w) X E) : OpR X (compareOp .NotEq) (rNeI C sp E) := by
  intro pins s σ H x y v u Q I rx ry h
  obtain ⟨f, fd, ps, cl, hm, F, hb⟩ := c.ex
  obtain ⟨a, dx, fs, b, dy, gs, rfl, rfl, ha, hb', q⟩ := h
  cases (show v = Value.ref a from rx)
  cases (show u = Value.ref b from ry)
  obtain ⟨mA, O, _⟩ := ins_get I.hok ha
  obtain ⟨mB, O', _⟩ := ins_get I.hok hb'
  obtain ⟨nm, qn, N, bs, sn, sub, ab, col, dd, k0, k1, k2, k3, k5, newId, lC, okN, nNe, f', nEq, fEq, of, lf, cf⟩ := n.ex
  have ef : f' = f := by
    have := fEq.symm.trans hm.at_
    cases this
    rfl
  subst ef
  have KX := I.kIn
  have G := Heap.Ns.of_isNs (PySem.W.isNs_of_in KX okN)
  have Y : s.heap.OwnEqNoNe a C f' "object" [.type "object"] :=
    ⟨_, of, nm, qn, N, bs, true, sn, sub, ab, col, dd, k0, k1, k2, k3, k5, newId, _, _, O.obj, rfl, KX _ _ lC, G, ns_at KX G nEq, KX _ _ lf, cf, PySem.F.mro_object, by exact PySem.F.cmp_object.eq.lookup, PySem.W.nsMap_none_of_in KX okN nNe⟩
  obtain ⟨hp, g, d, tk, os⟩ := s
  refine compareOp_ne_ownEq PySem.F.cmp_object Y O'.obj rfl (Nat.lt_of_le_of_lt (Nat.add_le_add_left (by decide : 1 ≤ 64) _) hr.units) ?_
  have hr1 : Room k X.A.in1 := (hr.mono hk).in1
  have r2 : Vals [V.ref a, V.ref b] [Value.ref a, Value.ref b] := .cons rfl (.cons rfl .nil)
  have hl : ([Value.ref a, Value.ref b]).length = ps.length := by rw [← r2.length]; exact F.len _ _ _ _ q
  have bt := hb _ [Value.ref a, Value.ref b] I.kIn (by rw [List.append_nil]; exact hl)
  rw [List.append_nil] at bt
  refine wpAny_call (codeAny_mono (F.run X.A.in1 X.stack _ H ⟨[.ref a, .ref b], []⟩ [.ref a, .ref b] [.ref a, .ref b] _ E hr1 I.env0.in1 bt r2 q) fun r s' hq => ?_)
  cases r with
  | error e => exact hx pins σ H _ e s' I hq
  | ok fl =>
    cases fl with
    | ret u =>
      obtain ⟨z', H', I', rz, bb, eb, qz⟩ := I.after hq
      subst eb
      cases (show u = Value.bool bb from rz)
      exact ⟨bb, rfl, .bl (!bb), H', I', rfl, qz⟩
    | next => exact False.elim hq
    | brk => exact False.elim hq
    | cont => exact False.elim hq
end
end DL
namespace DK
open PySem PySem.Spec PyProof.Rows L2 DL
/-- the context is one of this def -/
structure Of (X : Cx) (P : Program) (w : World) (K : PySem.W.Frag) (mg : Str → Option Value) (base : Heap) (A : Around) : Prop where
  p : X.prog = P
  w : X.w = w
  k : X.K = K
  m : X.mg = mg
  b : X.base = base
  a : X.A = A
section
variable {X : Cx} {P : Program} {w : World} {K : PySem.W.Frag} {mg : Str → Option Value} {base : Heap} {A : Around} {E : XK} {C : Addr} {k j : Nat} {sp : Sp}
theorem op_eqI (c : MetX P w K mg base k C "__eq__" sp) (hr : Room j A) (hk : k ≤ j) (hx : Passes (L2.CX X.prog X.w) X E) (o : Of X P w K mg base A := by exact ⟨rfl, rfl, rfl, rfl, rfl, rfl⟩) : OpR X (compareOp .Eq) (rEqI K C sp E) := by
  obtain ⟨rfl, rfl, rfl, rfl, rfl, rfl⟩ := o
  exact DL.op_eqI c hr hk hx
theorem op_neI (c : MetX P w K mg base k C "__eq__" sp) (n : NeC K C) (hr : Room j A) (hk : k + 1 ≤ j) (hx : Passes (L2.CX X.prog X.w) X E) (o : Of X P w K mg base A := by exact ⟨rfl, rfl, rfl, rfl, rfl, rfl⟩) : OpR X (compareOp .NotEq) (rNeI C sp E) := by
  obtain ⟨rfl, rfl, rfl, rfl, rfl, rfl⟩ := o
  exact DL.op_neI c n hr hk hx
theorem op_binI {op : Operator} {nm : Str} (hop : PySem.dunder op.info.2 = nm) (c : MetX P w K mg base k C nm sp) (hc : PySem.W.selfFirst K C = true) (hr : Room j A) (hk : k ≤ j) (hx : Passes (L2.CX X.prog X.w) X E) (o : Of X P w K mg base A := by exact ⟨rfl, rfl, rfl, rfl, rfl, rfl⟩) : OpR X (binaryOp op) (rBinI C sp E) := by
  obtain ⟨rfl, rfl, rfl, rfl, rfl, rfl⟩ := o
  exact DL.op_binI hop c hc hr hk hx
end
end DK

set_option Elab.async false
set_option linter.all false
set_option maxRecDepth 100000
set_option maxHeartbeats 4000000
/-! enumerate of a tuple -/
namespace DE
open PySem
open Sem (wp)
open AutoSeq1 (wpAny_loadPart')
abbrev itO (l : Addr) : Obj := { cls := .type "tuple_iterator", data := .fields #[.ref l, .int 0 0] }
abbrev enO (i : Addr) : Obj := { cls := .type "enumerate", data := .fields #[.none, .bool false, .ref i, rawInt 0, .none, .none] }
theorem new_enumT (l : Addr) (ws : Array Value) : Meets (Builtin.«enumerate.__new__» ⟨[.type "enumerate", .ref l], []⟩) (fun _ R s => s.heap.IsTuple l ws ∧
    R (.ok (.ret (.ref (s.heap.push (itO l)).objs.size))) { s with heap := (s.heap.push (itO l)).push (enO s.heap.objs.size) }) :=
  .of_wp fun prog w A R s h => by
    obtain ⟨hp, g, d, tk, os⟩ := s; obtain ⟨tl, h⟩ := h
    have sub := sub_enumerate
    have tl : Heap.IsTuple hp l ws := tl
    have go : ∀ {A' : Around} {E : Value → Shared → Prop} {Q : Value → Shared → Prop}, Q (.ref hp.objs.size) ⟨hp.push (itO l), g, d, tk, os⟩ → wpAny (model prog w) A' (pyIter (.ref l)) Q E ⟨hp, g, d, tk, os⟩ :=
      fun q => wpAny_pyIter_tuple tl q
    wp_walk using go
    refine wpAny_stack_any fun st => wpAny_pure ?_
    split
    · rename_i c _ _ _ _ _
      cases (c == Value.type "enumerate")
      · wp_walk using go
        exact ⟨_, rfl, h⟩
      · wp_walk using go
        exact ⟨_, rfl, h⟩
    · wp_walk using go
      exact ⟨_, rfl, h⟩
section
variable {prog : Program} {w : World} {A : Around} {E : Value → Shared → Prop} {s : Shared}
theorem call_enumT {l : Addr} {ws : Array Value} {Q : Value → Shared → Prop} (tl : s.heap.IsTuple l ws)
    (q : ∀ h', IsEnum h' (s.heap.objs.size + 1) s.heap.objs.size 0 .none → h'.IsTupleIter s.heap.objs.size l 0 → (∀ b o, s.heap.get? b = some o → h'.get? b = some o) → Q (.ref (s.heap.objs.size + 1)) { s with heap := h' }) :
    wpAny (model prog w) A (call (.type "enumerate") [.ref l]) Q E s := by
  refine callType_new F.called_enumerate (by decide) (F.typeCall_enumerate_1 _) (F.newCall_enumerate_1 _) (fun obj => F.args_object_init_2 obj _) F.entry_enumerate_new (new_enumT l ws) ⟨tl, ?_⟩
  have z : (s.heap.push (itO l)).objs.size = s.heap.objs.size + 1 := Heap.size_push ..
  show _ ∧ _
  rw [z]
  have he : IsEnum ((s.heap.push (itO l)).push (enO s.heap.objs.size)) (s.heap.objs.size + 1) s.heap.objs.size 0 .none := by
    have y := Heap.get?_push_size (s.heap.push (itO l)) (o := enO s.heap.objs.size) rfl
    rw [z] at y
    exact y
  exact ⟨⟨_, he, rfl⟩, q _ he ⟨_, Heap.get?_push_of_some _ (Heap.get?_push_size _ rfl), rfl, rfl⟩ fun b o x => Heap.get?_push_of_some _ (Heap.get?_push_of_some _ x)⟩
end
end DE
namespace L2
open PySem PySem.Spec PyProof.Rows
def IteT (K : PySem.W.Frag) (a : Addr) : It where
  go := fun i H => ∃ (l : List V) (y : V), SqT K H a l ∧ l[i]? = some y
  yld := fun i H v H' => ∃ T y, v = .ref T ∧ H T = none ∧ H' = upd H T (.tup [.int (i : Nat), y]) ∧ ∀ l, SqT K H a l → l[i]? = some y
  stop := fun i H => ∃ l : List V, SqT K H a l ∧ l.length = i
theorem turn_enT {P : Program} {w : World} {K : PySem.W.Frag} {elts : List Expr} {kk : Nat} {tpos : Pos} (a e it : Addr) :
    Turn P w K (.Tuple elts kk tpos) (IteT K a) [e, it] e (fun i h => (∃ old, IsEnum h e it ((i : Nat) : Int) old) ∧ h.IsTupleIter it a i ∧ e ≠ it ∧ a ≠ it ∧ a ≠ e) where
  mem := List.mem_cons_self
  obj := fun i h ⟨⟨old, y⟩, ⟨o, ho, _, hd⟩, _⟩ b hb => by
    rcases List.mem_cons.mp hb with z | z
    · subst z
      exact ⟨_, y, fun v q => nomatch q⟩
    · have z := List.mem_singleton.mp z
      subst z
      exact ⟨o, ho, fun v q => by rw [hd] at q; cases q⟩
  keep := fun i h h' ⟨⟨old, y⟩, hi, ne⟩ k => ⟨⟨old, k e (by simp) _ y⟩, hi.at fun o q => k it (by simp) o q, ne⟩
  item := by
    intro X hP hw hK hc i pins s σ H E I hf st hg
    subst hP hw hK
    obtain ⟨⟨old, he⟩, hi, n1, n2, n3⟩ := st
    obtain ⟨l, y, hq, hy⟩ := hg
    obtain ⟨ws, rv, tp, _⟩ := I.tuple hq
    obtain ⟨u, hu, ru⟩ := rv.get hy
    have le := Heap.lt_size he
    have li : it < s.heap.objs.size := by obtain ⟨_, q, _⟩ := hi; exact Heap.lt_size q
    have hlt : i < ws.toArray.size := by
      rw [List.size_toArray]
      exact (List.getElem?_eq_some_iff.mp hu).1
    refine wpAny_pyNext_enum_itemC (Draws.tuple (A := X.A.in1) (I.ok.hd hc) it a n2 ws.toArray) he ⟨hi, tp⟩ hlt n1 (by simp [n1, Ne.symm n3]) fun x h' tk hx ho hst hT _ hk => ?_
    have ex : x = u := by
      have hx : ws.toArray[i]? = some x := hx
      rw [List.getElem?_toArray, hu] at hx
      exact (Option.some.inj hx).symm
    subst ex
    refine ⟨_, rfl, wpAny_letOwnedTupleGo_enum (s := { s with heap := h', toks := tk + 1 }) ho fun h2 he2 sb => ?_⟩
    have hT2 := (sb.2 _ (Nat.ne_of_gt le)).trans hT
    have new : ObjOk X.prog X.w (upd H s.heap.objs.size (.tup [.int (i : Nat), y])) h2 s.heap.objs.size (.tup [.int (i : Nat), y]) :=
      ⟨by show 2 ≤ sizeLine; decide, [.int i tk, x], .cons ⟨_, rfl⟩ (.cons ru .nil), ⟨_, hT2, rfl, _, rfl⟩⟩
    have I1 : Inv X pins σ (upd H s.heap.objs.size (.tup [.int (i : Nat), y])) { s with heap := h2, toks := tk + 1 } :=
      I.turnedNew (ch := [e, it]) (fun b ob hb q => by
        have b1 : b ≠ e := fun z => hb (by rw [z]; exact List.mem_cons_self)
        have b2 : b ≠ it := fun z => hb (by rw [z]; simp)
        exact (sb.2 b b1).trans (hk b ob b1 b2 q)) hf (Nat.le_refl _) new
    refine ⟨.ref s.heap.objs.size, _, I1, rfl, ⟨_, y, rfl, I.hok.fresh (Nat.le_refl _), rfl, fun l' hl => by rw [I.tuple_inj hl hq]; exact hy⟩, ⟨⟨x, ?_⟩, hst.1.at fun o q => (sb.2 it (Ne.symm n1)).trans q, n1, n2, n3⟩, fun b hb => ?_⟩
    · rw [show ((i + 1 : Nat) : Int) = (i : Int) + 1 by omega]
      exact he2
    · have lb : b < s.heap.objs.size := by
        rcases List.mem_cons.mp hb with z | z
        · rw [z]; exact le
        · rw [List.mem_singleton.mp z]; exact li
      rw [upd_ne (Nat.ne_of_lt lb)]
      exact (hf b hb).1
  done := by
    intro X hP hw hK hc i pins s σ H E I hf st hg
    subst hP hw hK
    obtain ⟨⟨old, he⟩, hi, n1, n2, n3⟩ := st
    obtain ⟨l, hq, hl⟩ := hg
    obtain ⟨ws, rv, tp, _⟩ := I.tuple hq
    obtain ⟨f0, f1, f2, f3, f4, f5⟩ := hf it (by simp)
    have hz := rv.length
    have e : i = ws.toArray.size := by rw [List.size_toArray, ← hz, hl]
    subst e
    exact wpAny_pyNext_enum_endD (Draws.tuple (A := X.A.in1) (I.ok.hd hc) it a n2 ws.toArray) he ⟨hi, tp⟩ fun h' eb => ⟨rfl, I.turned (t' := s.toks) (fun b o hb q => eb b o hb q) f0 f1 f3 f4 f5⟩
  self := fun A i s Q E ⟨⟨_, y⟩, _⟩ h => wpAny_pyIter_enum y h
/-- enumerate(e), e a list or a tuple -/
def iEnum2 (K : PySem.W.Frag) (ta : TA) : TI := fun σ H R => ta σ H fun vs H1 => (∃ a xs, vs = [.ref a] ∧ SqL K H1 a xs ∧ R (Ite K a) H1) ∨ ∃ a xs, vs = [.ref a] ∧ SqT K H1 a xs ∧ R (IteT K a) H1
theorem pi_enum2 {X : Cx} {e : Expr} {ta : TA} {p pos tpos : Pos} {elts : List Expr} {kk : Nat} (hg : Gl X "enumerate") (hm : X.mg "enumerate" = none) (ha : PA X [e] ta) (hs : starEach [e] X.env = [(false, eval e X.env)] := by rfl) :
    PI X (.Tuple elts kk tpos) (.Call (.Name "enumerate" p) [e] [] pos) (iEnum2 X.K ta) := by
  refine ⟨fun pins s σ H R I h => ?_⟩
  refine Call_ (ld_blt I hg hm boot_enumerate (PyProof.Rows.callWith_type1 (thn (ha.run pos pins s σ H _ I h) fun us s1 ⟨vs, H1, I1, r1, q1⟩ => ?_) hs rfl))
  have fresh : ∀ b ∈ [s1.heap.objs.size + 1, s1.heap.objs.size], s1.heap.objs.size ≤ b := fun b hb => by
    rcases List.mem_cons.mp hb with z | z
    · rw [z]; exact Nat.le_add_right _ _
    · rw [List.mem_singleton.mp z]; exact Nat.le_refl _
  rcases q1 with ⟨a, xs, rfl, hq, q⟩ | ⟨a, xs, rfl, hq, q⟩
  · cases r1 with
    | cons r rr =>
      cases rr
      cases r
      obtain ⟨ws, rv, tp, _⟩ := I1.list hq
      refine call_enumerate_list tp.isList fun h' he hi hsz hk => wpAny_pyIter_enum he ?_
      exact ⟨_, [s1.heap.objs.size + 1, s1.heap.objs.size], _, _, H1, rfl, I1.kept (t' := s1.toks) hk, turn_enum a (s1.heap.objs.size + 1) s1.heap.objs.size, ⟨⟨.none, he⟩, hi, Nat.succ_ne_self _⟩, fun b hb => I1.fpOk (fresh b hb) (I1.hok.fresh (fresh b hb)), q⟩
  · cases r1 with
    | cons r rr =>
      cases rr
      cases r
      obtain ⟨ws, rv, tp, _⟩ := I1.tuple hq
      have la : a < s1.heap.objs.size := by obtain ⟨o, y, _⟩ := tp; exact Heap.lt_size y
      refine DE.call_enumT tp fun h' he hi hk => wpAny_pyIter_enum he ?_
      exact ⟨_, [s1.heap.objs.size + 1, s1.heap.objs.size], _, _, H1, rfl, I1.kept (t' := s1.toks) hk, turn_enT a (s1.heap.objs.size + 1) s1.heap.objs.size, ⟨⟨.none, he⟩, hi, Nat.succ_ne_self _, Nat.ne_of_lt la, Nat.ne_of_lt (Nat.lt_succ_of_lt la)⟩, fun b hb => I1.fpOk (fresh b hb) (I1.hok.fresh (fresh b hb)), q⟩
end L2
namespace DL
open PySem PySem.Spec PyProof.Rows L2
section
variable {c : Cn} {ς : Sta}
theorem wi_enumT {ta : TA} {Φ : List D → Sta → Prop} (h : WL c ta ς fun ds ς1 => ∃ l, ds = [.tup l] ∧ Φ (enumD l) ς1) : WI c (iEnum2 c.K ta) ς Φ := fun σ k hh S R z =>
  h σ k hh S _ fun vs k1 h1 ds ς1 S1 e1 r1 ⟨l, ed, q⟩ => by
    subst ed
    cases r1 with
    | cons r1 r2 =>
      cases r2
      cases r1 with
      | tup ek er =>
        rename_i a vs
        refine .inr ⟨a, vs, rfl, Same.sqt S1.kh ek, z _ k1 h1 _ ς1 S1 e1 ⟨fun i h hi ⟨e, _⟩ => ?_, fun h ⟨e, _⟩ => ⟨vs, Same.sqt e ek, ?_⟩, fun i h x h' d ed y kc e1 ⟨e2, _⟩ => ?_⟩ q⟩
        · have hv : i < vs.length := by rw [er.length]; unfold enumD at hi; rw [List.length_mapIdx] at hi; exact hi
          exact ⟨vs, vs[i], Same.sqt e ek, by simp [hv]⟩
        · unfold enumD
          rw [List.length_mapIdx, er.length]
        · obtain ⟨T, u, rfl, nT, rfl, y⟩ := y
          obtain ⟨x, hx, rfl⟩ := enumD_get ed
          obtain ⟨u', hu, ru⟩ := er.get hx
          have := y vs (Same.sqt (e1.trans e2) ek)
          rw [hu] at this
          cases this
          have g : Grow No kc h (upd kc T (.tup [.int (i : Nat), u])) (upd h T (.tup [.int (i : Nat), u])) := Grow.new e2 nT (by nofun)
          exact ⟨_, g, .tup (.inl (.inl upd_same)) (.cons (.int _) (.cons (ru.mono (e1.trans g.kk)) .nil))⟩
theorem wi_enumL {ta : TA} {Φ : List D → Sta → Prop} (h : WL c ta ς fun ds ς1 => ∃ l, ds = [.lst l] ∧ Φ (enumD l) ς1) : WI c (iEnum2 c.K ta) ς Φ := fun σ k hh S R z =>
  h σ k hh S _ fun vs k1 h1 ds ς1 S1 e1 r1 ⟨l, ed, q⟩ => by
    subst ed
    cases r1 with
    | cons r1 r2 =>
      cases r2
      cases r1 with
      | lst ek er =>
        rename_i a vs
        refine .inl ⟨a, vs, rfl, SqL.of (S1.kh _ _ ek), z _ k1 h1 _ ς1 S1 e1 ⟨fun i h hi ⟨e, _⟩ => ?_, fun h ⟨e, _⟩ => ⟨vs, SqL.of (e _ _ ek), ?_⟩, fun i h x h' d ed y kc e1 ⟨e2, _⟩ => ?_⟩ q⟩
        · have hv : i < vs.length := by rw [er.length]; unfold enumD at hi; rw [List.length_mapIdx] at hi; exact hi
          exact ⟨vs, vs[i], SqL.of (e _ _ ek), by simp [hv]⟩
        · unfold enumD
          rw [List.length_mapIdx, er.length]
          exact Nat.le_refl _
        · obtain ⟨T, u, rfl, nT, rfl, y⟩ := y
          obtain ⟨x, hx, rfl⟩ := enumD_get ed
          obtain ⟨u', hu, ru⟩ := er.get hx
          have := y vs (SqL.of (e2 _ _ (e1 _ _ ek)))
          rw [hu] at this
          cases this
          have g : Grow No kc h (upd kc T (.tup [.int (i : Nat), u])) (upd h T (.tup [.int (i : Nat), u])) := Grow.new e2 nT (by nofun)
          exact ⟨_, g, .tup (.inl (.inl upd_same)) (.cons (.int _) (.cons (ru.mono (e1.trans g.kk)) .nil))⟩
end
end DL
namespace DK
open PySem PySem.Spec PyProof.Rows L2 DL
theorem pi_enum2 {X : Cx} {K : PySem.W.Frag} {e : Expr} {ta : TA} {p pos tpos : Pos} {elts : List Expr} {kk : Nat} (hg : Gl X "enumerate") (hm : X.mg "enumerate" = none) (ha : PA X [e] ta) (h : X.K = K := by rfl) (hs : starEach [e] X.env = [(false, eval e X.env)] := by rfl) :
    PI X (.Tuple elts kk tpos) (.Call (.Name "enumerate" p) [e] [] pos) (iEnum2 K ta) := by subst h; exact L2.pi_enum2 hg hm ha hs
end DK

set_option Elab.async false
set_option linter.all false
set_option maxRecDepth 100000
set_option maxHeartbeats 4000000
namespace DL
open PySem PySem.Spec PyProof.Rows L2 DX
/-- what the top has written of a class of one's own -/
structure CK (K : PySem.W.Frag) (C : Addr) : Prop where
  ins : C8.InsC K C
  no : ∀ s, Knd s → PySem.W.kitOne K (.type s) (.ref C) = some false
  nf : ∀ s, Knd s → PySem.W.notFirst K C (.type s) = true
  sf : PySem.W.selfFirst K C = true
theorem nf_self {K : PySem.W.Frag} {C : Addr} : PySem.W.notFirst K C (.ref C) = true := by
  unfold PySem.W.notFirst
  simp
theorem Rep.objTy {K : PySem.W.Frag} {k h : Hp} {v : V} {C : Addr} {ns : List Str} {ds : List D} (ck : CK K C) (e : Same k h) (r : Rep K k v (.obj C ns ds)) : TyX K h v (.ref C) := by
  cases r with
  | obj ek _ _ => exact .base (.ins (e _ _ ek) ck.ins.cl ck.ins.ha ck.ins.hn ck.ins.htk ck.ins.hm)
section
variable {K : PySem.W.Frag} {Φ' : D → Prop}
theorem rc_isiO {C : Addr} {ns : List Str} {ds : List D} (ck : CK K C) (q : Φ' (.bl true)) : RC K (rIsi K) [.obj C ns ds, .ref C] Φ' := fun k h vs e r Q z => by
  cases r with
  | cons r1 r2 => cases r2 with
    | cons r2 r3 =>
      cases r2; cases r3
      exact ⟨_, _, _, _, _, rfl, .own C, r1.objTy ck e, ck.ins.me, z _ k h _ (Grow.refl e) (.bl _) q⟩
theorem rc_isiN {C : Addr} {d : D} (ck : CK K C) (hs : (tyN d).isSome = true) (q : Φ' (.bl false)) : RC K (rIsi K) [d, .ref C] Φ' := fun k h vs e r Q z => by
  obtain ⟨s, hs⟩ := Option.isSome_iff_exists.mp hs
  cases r with
  | cons r1 r2 => cases r2 with
    | cons r2 r3 =>
      cases r2; cases r3
      exact ⟨_, _, _, _, _, rfl, .own C, r1.tyX e hs, ck.no s (tyN_knd hs), z _ k h _ (Grow.refl e) (.bl _) q⟩
/-- an operand of an own == -/
inductive Opd (C : Addr) : D → Prop
  | obj (ns : List Str) (ds : List D) : Opd C (.obj C ns ds)
  | ty {d : D} (h : (tyN d).isSome = true) : Opd C d
theorem rd_eqI {C : Addr} {ns : List Str} {fs : List D} {d : D} {g : List D → Option Out} {E : XK} {b : Bool} {Φ : D → Prop} (ck : CK K C) (hd : Opd C d) (hg : g [.obj C ns fs, d] = some (.ret (.bl b))) (q : Φ (.bl b)) : RD K (rEqI K C (SpS K 2 (spcF g)) E) (.obj C ns fs) d Φ := fun k h v1 v2 e r1 r2 Q z => by
  have rr : RepL K k [v1, v2] [.obj C ns fs, d] := .cons r1 (.cons r2 .nil)
  cases r1 with
  | obj ek en er =>
    have sp : SpS K 2 (spcF g) [.ref _, v2] h Q E := ⟨rfl, Res.none, k, _, 0, rr, e, trivial, fun a z => z.elim, ⟨_, hg⟩, fun d' b' hq v k' h' g' _ r => by
      have y := hg.symm.trans hq.1
      cases y
      exact z v k' h' _ g' r q, fun C' ns' fs' b' hq => by
      have y := hg.symm.trans hq.1
      cases y⟩
    cases hd with
    | obj ns' ds' => exact ⟨_, _, _, _, rfl, e _ _ ek, r2.objTy ck e, nf_self, sp⟩
    | ty ht =>
      obtain ⟨s, hs⟩ := Option.isSome_iff_exists.mp ht
      exact ⟨_, _, _, _, rfl, e _ _ ek, r2.tyX e hs, ck.nf s (tyN_knd hs), sp⟩
theorem rd_neI {C : Addr} {ns ns' : List Str} {fs fs' : List D} {g : List D → Option Out} {E : XK} {b : Bool} {Φ : D → Prop} (hg : g [.obj C ns fs, .obj C ns' fs'] = some (.ret (.bl b))) (q : Φ (.bl (!b))) : RD K (rNeI C (SpS K 2 (spcF g)) E) (.obj C ns fs) (.obj C ns' fs') Φ := fun k h v1 v2 e r1 r2 Q z => by
  have rr : RepL K k [v1, v2] [.obj C ns fs, .obj C ns' fs'] := .cons r1 (.cons r2 .nil)
  cases r1 with
  | obj ek en er => cases r2 with
    | obj ek2 en2 er2 =>
      refine ⟨_, _, _, _, _, _, rfl, rfl, e _ _ ek, e _ _ ek2, rfl, Res.none, k, _, 0, rr, e, trivial, fun a z => z.elim, ⟨_, hg⟩, fun d' b' hq v k' h' g' _ r => ?_, fun C' ns' fs' b' hq => ?_⟩
      · have y := hg.symm.trans hq.1
        cases y
        cases r
        exact ⟨b, rfl, z _ k' h' _ g' (.bl _) q⟩
      · have y := hg.symm.trans hq.1
        cases y
/-- x + y and the like: hE: what is raised is taken -/
theorem rd_binI {C : Addr} {ns ns' : List Str} {fs fs' : List D} {g : List D → Option Out} {E : XK} {d : D} {Φ : D → Prop} (hg : g [.obj C ns fs, .obj C ns' fs'] = some (.ret d)) (q : Φ d) : RD K (rBinI C (SpS K 2 (spcF g)) E) (.obj C ns fs) (.obj C ns' fs') Φ := fun k h v1 v2 e r1 r2 Q z => by
  have rr : RepL K k [v1, v2] [.obj C ns fs, .obj C ns' fs'] := .cons r1 (.cons r2 .nil)
  cases r1 with
  | obj ek en er => cases r2 with
    | obj ek2 en2 er2 =>
      refine ⟨_, _, _, _, _, _, rfl, rfl, e _ _ ek, e _ _ ek2, rfl, Res.none, k, _, 0, rr, e, trivial, fun a z => z.elim, ⟨_, hg⟩, fun d' b' hq v k' h' g' _ r => ?_, fun C' ns' fs' b' hq => ?_⟩
      · have y := hg.symm.trans hq.1
        cases y
        exact z _ k' h' _ g' r q
      · have y := hg.symm.trans hq.1
        cases y
end
section
variable {c : Cn} {ς : Sta} {Φ : D → Sta → Prop} {Ψ : Psi}
/-- a method that hangs on its object and arguments alone -/
theorem we_methF {C : Addr} {m : Str} {n : Nat} {g : List D → Option Out} {E : XK} {te : TE} {ta : TA} {X : XT} (hE : XOk c E X)
    (h : WE c te ς fun d ς0 => ∃ ns fs, d = .obj C ns fs ∧ m ∉ ns ∧ WL c ta ς0 fun ds ς1 => (d :: ds).length = n ∧ ∃ o, g (d :: ds) = some o ∧ OutP Φ X ς1 o) : WE c (tMeth C m (SpS c.K n (spcF g)) [] E te ta) ς Φ := by
  refine we_meth hE fun σ k hh S Q z => h σ k hh S Q fun v k' h' d ς' S' e r ⟨ns, fs, ed, hm, w⟩ => z v k' h' d ς' S' e r ⟨ns, fs, ed, hm, fun σ k hh S Q z => w σ k hh S Q fun vs k' h' ds ς' S' e r ⟨h1, o, h2, h3⟩ => z vs k' h' ds ς' S' e r ⟨h1, ⟨o, h2⟩, fun e b q => ?_, fun C ns fs b q => ?_⟩⟩
  · have e := h2.symm.trans q.1
    cases e
    cases h3 with
    | ret q => exact q
  · have e := h2.symm.trans q.1
    cases e
    cases h3 with
    | exc q => exact q
/-- __init__ that hangs on its arguments alone: the fields in order -/
inductive OutI where
  | ok (ns : List Str) (fs : List D)
  | exc (C : Addr) (ns : List Str) (fs : List D)
def spcI (g : List D → Option OutI) : SpcI where
  pre := fun ds => ∃ o, g ds = some o
  post := fun ds ns fs => g ds = some (.ok ns fs)
  exc := fun ds C ns fs => g ds = some (.exc C ns fs)
inductive OutJ (C0 : Addr) (Φ : D → Sta → Prop) (X : XT) (ς : Sta) : OutI → Prop
  | ok {ns : List Str} {fs : List D} (q : Φ (.obj C0 ns fs) ς) : OutJ C0 Φ X ς (.ok ns fs)
  | exc {C : Addr} {ns : List Str} {fs : List D} (q : X C ns fs ς) : OutJ C0 Φ X ς (.exc C ns fs)
theorem we_makeF {C : Addr} {n : Nat} {g : List D → Option OutI} {E : XK} {ta : TA} {X : XT} (hE : XOk c E X) (h : WL c ta ς fun ds ς1 => ds.length + 1 = n ∧ ∃ o, g ds = some o ∧ OutJ C Φ X ς1 o) : WE c (tMake C (SpI c.K n C (spcI g)) [] E ta) ς Φ := by
  refine we_make hE fun σ k hh S Q z => h σ k hh S Q fun vs k' h' ds ς' S' e r ⟨h1, o, h2, h3⟩ => z vs k' h' ds ς' S' e r ⟨h1, ⟨o, h2⟩, fun ns fs q => ?_, fun C ns fs q => ?_⟩
  · have e := h2.symm.trans q
    cases e
    cases h3 with
    | ok q => exact q
  · have e := h2.symm.trans q
    cases e
    cases h3 with
    | exc q => exact q
theorem mk_ok {C : Addr} {n : Nat} {g : List D → Option OutI} {ds : List D} {X : XT} {ns : List Str} {fs : List D} (hl : ds.length + 1 = n) (hg : g ds = some (.ok ns fs)) (q : Φ (.obj C ns fs) ς) : ds.length + 1 = n ∧ ∃ o, g ds = some o ∧ OutJ C Φ X ς o := ⟨hl, _, hg, .ok q⟩
theorem mk_exc {C : Addr} {n : Nat} {g : List D → Option OutI} {ds : List D} {X : XT} {C' : Addr} {ns : List Str} {fs : List D} (hl : ds.length + 1 = n) (hg : g ds = some (.exc C' ns fs)) (q : X C' ns fs ς) : ds.length + 1 = n ∧ ∃ o, g ds = some o ∧ OutJ C Φ X ς o := ⟨hl, _, hg, .exc q⟩
/-- o.f by its data -/
theorem we_fld1 {te : TE} {f : Str} (h : WE c te ς fun d ς1 => ∃ C ns ds d', d = .obj C ns ds ∧ (Cls c.K C ∧ NoAttr c.K C f) ∧ lookD f ns ds = some d' ∧ Φ d' ς1) : WE c (tFld c.K te f) ς Φ :=
  we_fld fun σ k hh S Q z => h σ k hh S Q fun v k' h' d ς' S' e r ⟨C, ns, ds, d', h1, ⟨h2, h3⟩, h4, q⟩ => z v k' h' d ς' S' e r ⟨C, ns, ds, d', h1, h2, h3, h4, q⟩
end
theorem rc_max2 {K : PySem.W.Frag} {Φ' : D → Prop} {i j : Int} (q : Φ' (.int (if j > i then j else i))) : RC K (fun xs H Q => ∃ i j, xs = [.int i, .int j] ∧ Q (.int (if j > i then j else i)) H) [.int i, .int j] Φ' := fun k h vs e r Q z => by
  cases r with
  | cons r1 r2 => cases r2 with
    | cons r2 r3 =>
      cases r1; cases r2; cases r3
      exact ⟨i, j, rfl, z _ k h _ (Grow.refl e) (.int _) q⟩
/-! ### lists of ints -/
abbrev iL (l : List Int) : D := .lst (l.map D.int)
theorem eqvAll_iL : ∀ a b : List Int, PyData.eqvAll (toPyL (a.map D.int)) (toPyL (b.map D.int)) = decide (a = b)
  | [], [] => by simp [toPyL, PyData.eqvAll]
  | [], y :: b => by simp [toPyL, PyData.eqvAll]
  | x :: a, [] => by simp [toPyL, PyData.eqvAll]
  | x :: a, y :: b => by
    have h := eqvAll_iL a b
    simp only [List.map_cons, toPyL, D.toPy, PyData.eqvAll, PyData.eqv, h]
    by_cases e : x = y <;> simp [e]
theorem eqv_iL (a b : List Int) : PyData.eqv (iL a).toPy (iL b).toPy = decide (a = b) := by
  have h := eqvAll_iL a b
  simp only [D.toPy, PyData.eqv, h]
theorem lay_iL : ∀ a : List Int, PyData.canLayAll0 (toPyL (a.map D.int)) = true
  | [] => by simp [toPyL, PyData.canLayAll0]
  | x :: a => by simp [toPyL, D.toPy, PyData.canLayAll0, PyData.canLay0, lay_iL a]
theorem dep_iL : ∀ a : List Int, PyData.depthAll (toPyL (a.map D.int)) ≤ 1
  | [] => by simp [toPyL, PyData.depthAll]
  | x :: a => by
    have := dep_iL a
    simp [toPyL, D.toPy, PyData.depthAll, PyData.depth]
    omega
theorem sh_iL (a : List Int) : SeqAt.shaped (iL a).toPy = true := by
  have h1 := lay_iL a
  have h2 := dep_iL a
  simp only [SeqAt.shaped, D.toPy, PyData.canLay0, PyData.depth, h1, Bool.true_and, decide_eq_true_eq]
  omega
theorem rd_eq_iL {K : PySem.W.Frag} {Φ : D → Prop} {a b : List Int} (q : Φ (.bl (decide (a = b)))) : RD K (rEqK K) (iL a) (iL b) Φ := by
  refine rd_eq_py (sh_iL a) (sh_iL b) ?_
  rw [eqv_iL]
  exact q
theorem rd_ne_iL {K : PySem.W.Frag} {Φ : D → Prop} {a b : List Int} (q : Φ (.bl (!decide (a = b)))) : RD K (rNeK K) (iL a) (iL b) Φ := by
  refine rd_ne_py (sh_iL a) (sh_iL b) ?_
  rw [eqv_iL]
  exact q
end DL
namespace DL
open PySem PySem.Spec PyProof.Rows L2 DX
/-! ### what hangs on data of a form alone -/
open Classical in
noncomputable def gOf {α : Type} (ar : α → List D) (ok : α → Prop) (res : α → Out) (ds : List D) : Option Out := if h : ∃ x, ar x = ds ∧ ok x then some (res (Classical.choose h)) else none
theorem gOf_eq {α : Type} {ar : α → List D} {ok : α → Prop} {res : α → Out} (inj : ∀ x y, ar x = ar y → x = y) {x : α} (h : ok x) : gOf ar ok res (ar x) = some (res x) := by
  have e : ∃ y, ar y = ar x ∧ ok y := ⟨x, rfl, h⟩
  unfold gOf
  rw [dif_pos e, inj _ _ (Classical.choose_spec e).1]
theorem gOf_inv {α : Type} {ar : α → List D} {ok : α → Prop} {res : α → Out} {ds : List D} {o : Out} (h : gOf ar ok res ds = some o) : ∃ x, ds = ar x ∧ ok x ∧ o = res x := by
  unfold gOf at h
  by_cases e : ∃ x, ar x = ds ∧ ok x
  · rw [dif_pos e] at h
    have z := Classical.choose_spec e
    exact ⟨_, z.1.symm, z.2, (Option.some.inj h).symm⟩
  · rw [dif_neg e] at h
    cases h
theorem iL_inj {a b : List Int} (h : a.map D.int = b.map D.int) : a = b := by
  have z := congrArg (List.map dI) h
  rw [List.map_map, List.map_map] at z
  exact (List.map_id' a).symm.trans ((List.map_congr_left fun _ _ => rfl).trans (z.trans ((List.map_congr_left fun _ _ => rfl).trans (List.map_id' b))))
end DL

set_option Elab.async false
set_option linter.all false
set_option maxRecDepth 100000
set_option maxHeartbeats 4000000
/-! lists of ints handed on by their place (they may change later) -/
namespace DL
open PySem PySem.Spec PyProof.Rows L2 DX
/-- the list at o stays through the def's run -/
structure HR (c : Cn) (o : Addr) (xs : List Int) : Prop where
  at_ : c.h0 o = some (.lst (xs.map V.int))
  nw : ¬ c.R.W o
  kn : c.k0 o = none
theorem HR.now {c : Cn} {o : Addr} {xs : List Int} {ς : Sta} {σ : L2.St} {k h : Hp} (r : HR c o xs) (S : SR c ς σ k h) : h o = some (.lst (xs.map V.int)) := S.g.hh _ _ r.nw r.at_
theorem HR.no {c : Cn} {o : Addr} {xs : List Int} {ς : Sta} {σ : L2.St} {k h : Hp} (r : HR c o xs) (S : SR c ς σ k h) : k o = none := S.g.dj o r.kn (by rw [r.at_]; simp)
theorem HR.st {c : Cn} {o : Addr} {xs : List Int} {k h : Hp} (r : HR c o xs) (s : StK c k h) : h o = some (.lst (xs.map V.int)) := by
  obtain ⟨_, ς, σ, k', S, _⟩ := s
  exact r.now S
theorem get_ints {xs : List Int} {i : Nat} {d : D} (h : (xs.map D.int)[i]? = some d) : ∃ x, d = .int x ∧ (xs.map V.int)[i]? = some (.int x) := by
  rw [List.getElem?_map] at h
  cases e : xs[i]? with
  | none => rw [e] at h; cases h
  | some x =>
    rw [e] at h
    cases h
    exact ⟨x, rfl, by rw [List.getElem?_map, e]; rfl⟩
section
variable {c : Cn} {ς : Sta} {Φ : D → Sta → Prop} {Ψ : Psi}
theorem wi_seqR {te : TE} {Φ : List D → Sta → Prop} (h : WE c te ς fun d ς1 => ∃ o xs, d = .ref o ∧ HR c o xs ∧ Φ (xs.map D.int) ς1) : WI c (iSeq c.K te) ς Φ := fun σ k hh S R z => .inl <|
  h σ k hh S _ fun v k1 h1 d ς1 S1 e1 r1 ⟨o, xs, ed, r, q⟩ => by
    subst ed
    cases r1
    refine ⟨o, rfl, ⟨_, SqL.of (r.now S1)⟩, z _ k1 h1 _ ς1 S1 e1 ⟨fun i h hi s => ?_, fun h s => ⟨_, SqL.of (r.st s), by rw [List.length_map, List.length_map]; exact Nat.le_refl _⟩, fun i h x h' d ed y kc e1 s => ?_⟩ q⟩
    · rw [List.length_map] at hi
      exact ⟨_, .int xs[i], SqL.of (r.st s), by simp [hi]⟩
    · obtain ⟨rfl, y⟩ := y
      obtain ⟨n, rfl, hu⟩ := get_ints ed
      have := y _ (SqL.of (r.st s))
      rw [hu] at this
      cases this
      exact ⟨kc, Grow.refl s.same, .int n⟩
theorem wi_enumR {ta : TA} {Φ : List D → Sta → Prop} (h : WL c ta ς fun ds ς1 => ∃ o xs, ds = [.ref o] ∧ HR c o xs ∧ Φ (enumD (xs.map D.int)) ς1) : WI c (iEnum2 c.K ta) ς Φ := fun σ k hh S R z =>
  h σ k hh S _ fun vs k1 h1 ds ς1 S1 e1 r1 ⟨o, xs, ed, r, q⟩ => by
    subst ed
    cases r1 with
    | cons r1 r2 =>
      cases r2
      cases r1
      refine .inl ⟨o, _, rfl, SqL.of (r.now S1), z _ k1 h1 _ ς1 S1 e1 ⟨fun i h hi s => ?_, fun h s => ⟨_, SqL.of (r.st s), ?_⟩, fun i h x h' d ed y kc e1 s => ?_⟩ q⟩
      · unfold enumD at hi
        rw [List.length_mapIdx, List.length_map] at hi
        exact ⟨_, .int xs[i], SqL.of (r.st s), by simp [hi]⟩
      · unfold enumD
        rw [List.length_mapIdx, List.length_map, List.length_map]
        exact Nat.le_refl _
      · obtain ⟨T, u, rfl, nT, rfl, y⟩ := y
        obtain ⟨d, hx, rfl⟩ := enumD_get ed
        obtain ⟨n, rfl, hu⟩ := get_ints hx
        have := y _ (SqL.of (r.st s))
        rw [hu] at this
        cases this
        have g : Grow No kc h (upd kc T (.tup [.int (i : Nat), .int n])) (upd h T (.tup [.int (i : Nat), .int n])) := Grow.new s.same nT (by nofun)
        exact ⟨_, g, .tup (.inl (.inl upd_same)) (.cons (.int _) (.cons (.int _) .nil))⟩
/-- isinstance(x, (list, tuple)) -/
theorem we_isiR {te : TE} (h : WE c te ς fun d ς1 => ∃ o xs, d = .ref o ∧ HR c o xs ∧ Φ (.bl true) ς1) : WE c (tCB (rIsiT c.K) (tCons te (tCons (tTup (tCons (tC (.ty "list")) (tCons (tC (.ty "tuple")) tNil))) tNil))) ς Φ := fun σ k hh S Q z =>
  h σ k hh S _ fun v k1 h1 d ς1 S1 e1 r1 ⟨o, xs, ed, r, q⟩ => by
    subst ed
    cases r1
    show tTup (tTys ["list", "tuple"]) σ h1 _
    refine tTys_go (ns := ["list", "tuple"]) (h := h1) ?_
    refine ⟨by rw [sizeLine_eq]; decide, fun p n => ?_⟩
    have g : Grow No k1 h1 k1 (upd h1 p (.tup (["list", "tuple"].map V.ty))) := Grow.newU S1.kh n
    have S2 := S1.grow g
    exact ⟨.ref o, p, _, _, _, _, rfl, upd_same, clsV_tys, .base (.lst (r.now S2)), kitAny_tys (s := "list") (by simp [Knd]) (by simp [Knd]), z _ k1 _ _ ς1 S2 e1 (.bl _) q⟩
/-- tuple(xs), xs a list that may change later -/
theorem we_tupM {te : TE} (h : WE c te ς fun d ς1 => ∃ (o : Addr) (j : Nat) (l : List D), d = .ref o ∧ ς1.m[j]? = some (o, .lst l) ∧ Φ (.tup l) ς1) : WE c (tCB (rTupK c.K) (tCons te tNil)) ς Φ := fun σ k hh S Q z =>
  h σ k hh S _ fun v k1 h1 d ς1 S1 e1 r1 ⟨o, j, l, ed, ej, q⟩ => by
    subst ed
    cases r1
    obtain ⟨a1, a2, vs, hv, rv⟩ := S1.at ej
    refine ⟨o, vs, rfl, .inl ⟨SqL.of hv, fun p n => ?_⟩⟩
    have g : Grow No k1 h1 (upd k1 p (.tup vs)) (upd h1 p (.tup vs)) := Grow.new S1.kh n (by nofun)
    exact z _ _ _ _ ς1 (S1.grow g) (e1.trans g.kk) (.tup (.inl (.inl upd_same)) (rv.mono g.kk)) q
/-- a new list that may change: its place -/
theorem SR.newM {σ : L2.St} {k1 h1 : Hp} {p : Addr} {vs : List V} {ds : List D} (S1 : SR c ς σ k1 h1) (n : h1 p = none) (r1 : RepL c.K k1 vs ds) : SR c { ς with m := (p, .lst ds) :: ς.m } σ k1 (upd h1 p (.lst vs)) ∧ ∀ x ∈ ς.m, x.1 ≠ p := by
  have g : Grow (fun _ => False) k1 h1 k1 (upd h1 p (.lst vs)) := Grow.newU S1.kh n
  have S2 := S1.grow g
  have np : ∀ x ∈ ς.m, x.1 ≠ p := fun x hx e => (S1.m x hx).2.2.there (by rw [e]; exact n)
  refine ⟨⟨S2.g, S2.i, S2.w, S2.s, fun x hx => ?_, ?_, S2.len, S2.kb⟩, np⟩
  · rcases List.mem_cons.mp hx with e | hx
    · subst e
      refine ⟨S1.kh.free n, ?_, ⟨vs, upd_same, r1⟩⟩
      cases y : c.h0 p with
      | none => exact .inl rfl
      | some o => exact absurd n (S1.g.hd p (by rw [y]; simp))
    · exact S2.m x hx
  · rw [List.map_cons]
    refine List.nodup_cons.mpr ⟨fun hm => ?_, S1.nd⟩
    obtain ⟨x, hx, e⟩ := List.mem_map.mp hm
    exact np x hx e
/-- list(xs) that may change later -/
theorem we_newL {te : TE} (h : WE c te ς fun d ς1 => ∃ l, d = .lst l ∧ ∀ p, (∀ x ∈ ς1.m, x.1 ≠ p) → Φ (.ref p) { ς1 with m := (p, .lst l) :: ς1.m }) : WE c (tCB (rListK c.K) (tCons te tNil)) ς Φ := fun σ k hh S Q z =>
  h σ k hh S _ fun v k1 h1 d ς1 S1 e1 r1 ⟨l, ed, q⟩ => by
    subst ed
    cases r1 with
    | lst ek er =>
      refine ⟨_, _, rfl, .inl (SqL.of (S1.kh _ _ ek)), fun p n => ?_⟩
      obtain ⟨S2, np⟩ := S1.newM n er
      exact z (.ref p) k1 _ _ _ S2 e1 (.ref p) (q p np)
/-- e.append(x), e a new list -/
theorem ws_appendE {j : Nat} {to te : TE} (hI : ∀ b h h', c.fr = false → c.R.I b h → c.R.I b h')
    (h : WE c to ς fun d ς1 => ∃ o, d = .ref o ∧ (∃ ds, ς1.m[j]? = some (o, MO.lst ds)) ∧ WE c te ς1 fun e ς2 => ∃ ds, ς2.m[j]? = some (o, MO.lst ds) ∧ ds.length < sizeLine ∧ Ψ.nx { ς2 with m := ς2.m.set j (o, MO.lst (ds ++ [e])) }) :
    WS c (tDrop (tBM c.K "list" rAppend to (tCons te tNil))) ς Ψ := fun σ k hh S E z =>
  h σ k hh S _ fun v k1 h1 d ς1 S1 e1 r1 ⟨o, ed, ⟨ds0, ej0⟩, q⟩ => by
    subst ed
    cases r1
    obtain ⟨_, _, vs0, hv0, _⟩ := S1.at ej0
    refine ⟨.inl ⟨rfl, vs0, SqL.of hv0⟩, q σ k1 h1 S1 _ fun y k2 h2 e ς2 S2 e2 r2 ⟨ds, ej, l, q2⟩ => ?_⟩
    obtain ⟨a1, a2, vs, hv, rv⟩ := S2.at ej
    refine ⟨o, vs, y, rfl, rfl, hv, by rw [rv.length]; exact l, ?_⟩
    exact z.nx σ k2 _ _ (S2.put (mo' := .lst (ds ++ [e])) ej hI ⟨vs ++ [y], upd_same, rv.append (.cons r2 .nil)⟩) (e1.trans e2) q2
/-- a list that may change is not looked at any more -/
theorem ws_forget {j : Nat} {t : TS} (h : WS c t { ς with m := ς.m.eraseIdx j } Ψ) : WS c t ς Ψ := fun σ k hh S E z =>
  h σ k hh ⟨S.g, S.i, S.w, S.s, fun p hp => S.m p (List.mem_of_mem_eraseIdx hp), by
    show ((ς.m.eraseIdx j).map (·.1)).Nodup
    exact S.nd.sublist ((List.eraseIdx_sublist ς.m j).map _), S.len, S.kb⟩ E z
end
/-! ### defs that take such a list -/
def spOr (s1 s2 : Sp) : Sp := fun vs H Q E => s1 vs H Q E ∨ s2 vs H Q E
theorem fn_or {P : Program} {w : World} {K : PySem.W.Frag} {mg : Str → Option Value} {base : Heap} {CX : CXT} {k : Nat} {f : Addr} {fd : FuncData} {ps : List Str} {s1 s2 : Sp} (h1 : FnOk P w K mg base CX k f fd ps s1) (h2 : FnOk P w K mg base CX k f fd ps s2) : FnOk P w K mg base CX k f fd ps (spOr s1 s2) := by
  refine ⟨fun vs H Q E h => ?_, fun A outer s H args us vs Q E hr e0 hb r h => ?_⟩
  · rcases h with h | h
    · exact h1.len _ _ _ _ h
    · exact h2.len _ _ _ _ h
  · rcases h with h | h
    · exact h1.run A outer s H args us vs Q E hr e0 hb r h
    · exact h2.run A outer s H args us vs Q E hr e0 hb r h
/-- f(xs): told by the numbers -/
def SpR1 (K : PySem.W.Frag) (g : List Int → D) : Sp := fun vs H Q _ => ∃ (o : Addr) (xs : List Int) (k : Hp), vs = [.ref o] ∧ H o = some (.lst (xs.map V.int)) ∧ k o = none ∧ Same k H ∧ xs.length ≤ 1000 ∧ ∀ v k' h', Grow No k H k' h' → Rep K k' v (g xs) → Q v h'
section
variable {P : Program} {w : World} {K : PySem.W.Frag} {mg : Str → Option Value} {base : Heap}
theorem fnR1 {x qual : Str} {st : Stmt} {f : Addr} {fd : FuncData} {N ps : List Str} {k : Nat} {g : List Int → D} (Fn : Fun K x qual st f fd) (S : FnScope N ps (defScope st)) (hn : ps.length = 1)
    (hbody : ∀ (cdv : Value) (A : Around) (outer : List Env) (sh : Shared) (H : Hp) (E : XK), Room k (A.deeper (envOfC qual (defScope st) sh.heap.objs.size f cdv)) →
      ∃ t, PSs (cxOf (L2.CX P w) P w K mg base N qual (defScope st) f cdv A outer sh H E) (defBody st) t ∧
        ∀ (k0 : Hp) (o : Addr) (xs : List Int), HR ⟨K, Res.none, k0, H, true, fun _ => none⟩ o xs → xs.length ≤ 1000 →
          WS ⟨K, Res.none, k0, H, true, fun _ => none⟩ t { δ := startD N [.ref o], b := 0 } { nx := fun _ => g xs = .non, rt := fun d _ => d = g xs }) :
    FnOk P w K mg base (L2.CX P w) (k + 1) f fd ps (SpR1 K g) := by
  refine Fn.okX S (fun vs H Q E h => by obtain ⟨_, _, _, rfl, _⟩ := h; rw [hn]; rfl) fun cdv A outer sh H vs Q E hr h => ?_
  obtain ⟨t, ht, hw⟩ := hbody cdv A outer sh H E hr
  obtain ⟨o, xs, k0, rfl, ho, ko, e, hl, hq⟩ := h
  refine ⟨t, ht, ?_⟩
  have rr : RepL K k0 [.ref o] [.ref o] := .cons (.ref o) .nil
  refine hw k0 o xs ⟨ho, fun z => z, ko⟩ hl (L2.start N _) k0 H ⟨Grow.refl e, trivial, fun _ z => z.elim, fun i d q => start_rep rr q, fun p hp => absurd hp (by simp), List.nodup_nil, start_len rr.length, fun _ _ z => by cases z⟩ _ ?_
  exact ⟨fun σ' k' h' ς' S' _ q => hq .non k' h' S'.g (by rw [q]; exact .non), fun _ _ _ _ _ _ q => q.elim, fun _ _ _ _ _ _ q => q.elim, fun v σ' k' h' d ς' S' _ r q => hq v k' h' S'.g (by rw [← q]; exact r)⟩
end
section
variable {c : Cn} {ς : Sta} {Φ : D → Sta → Prop} {Ψ : Psi}
theorem we_callFl {n : Nat} {g : List D → Option Out} {s2 : Sp} {E : XK} {ta : TA} {X : XT} (hE : XOk c E X) (h : WL c ta ς fun ds ς1 => ds.length = n ∧ ∃ o, g ds = some o ∧ OutP Φ X ς1 o) : WE c (tCall (spOr (SpS c.K n (spcF g)) s2) [] E ta) ς Φ := fun σ k hh S Q z =>
  h σ k hh S _ fun vs k1 h1 ds ς1 S1 e1 r1 ⟨l, o, h2, h3⟩ => by
    refine .inl ?_
    rw [List.append_nil]
    refine ⟨by rw [r1.length, l], Res.none, k1, ds, 0, r1, S1.kh, trivial, fun a z => z.elim, ⟨o, h2⟩, fun d b q v k' h' g _ r => ?_, fun C ns fs b q dd ws k' h' g _ e r => ?_⟩
    · have e := h2.symm.trans q.1
      cases e
      cases h3 with
      | ret q => exact z v k' h' d ς1 (S1.grow g) (e1.trans g.kk) r q
    · have e' := h2.symm.trans q.1
      cases e'
      cases h3 with
      | exc q => exact hE C ns fs dd ws σ k' h' ς1 (S1.grow g) e r q
/-- the list is one that stays through this def's run, or one of its own -/
def Stands (c : Cn) (ς : Sta) (o : Addr) (xs : List Int) : Prop := HR c o xs ∨ ∃ j : Nat, ς.m[j]? = some (o, MO.lst (xs.map D.int))
theorem Stands.now {o : Addr} {xs : List Int} {σ : L2.St} {k h : Hp} (r : Stands c ς o xs) (S : SR c ς σ k h) : h o = some (.lst (xs.map V.int)) := by
  rcases r with r | ⟨j, ej⟩
  · exact r.now S
  · obtain ⟨a1, a2, vs, hv, rv⟩ := S.at ej
    rw [← rv.ints]
    exact hv
theorem Stands.no {o : Addr} {xs : List Int} {σ : L2.St} {k h : Hp} (r : Stands c ς o xs) (S : SR c ς σ k h) : k o = none := by
  rcases r with r | ⟨j, ej⟩
  · exact r.no S
  · exact (S.at ej).1
theorem we_callR1 {g : List Int → D} {s1 : Sp} {E : XK} {ta : TA} (h : WL c ta ς fun ds ς1 => ∃ o xs, ds = [.ref o] ∧ Stands c ς1 o xs ∧ xs.length ≤ 1000 ∧ Φ (g xs) ς1) : WE c (tCall (spOr s1 (SpR1 c.K g)) [] E ta) ς Φ := fun σ k hh S Q z =>
  h σ k hh S _ fun vs k1 h1 ds ς1 S1 e1 r1 ⟨o, xs, ed, st, l, q⟩ => by
    subst ed
    cases r1 with
    | cons r1 r2 =>
      cases r1; cases r2
      exact .inr ⟨o, xs, k1, rfl, st.now S1, st.no S1, S1.kh, l, fun v k' h' g r => z v k' h' _ ς1 (S1.grow g) (e1.trans g.kk) r q⟩
end
end DL

set_option Elab.async false
set_option linter.all false
set_option maxRecDepth 100000
set_option maxHeartbeats 4000000
/-! C(an int, a list of ints that may change later) -/
namespace DL
open PySem PySem.Spec PyProof.Rows L2 DX
def SpIR (K : PySem.W.Frag) (C : Addr) (P : Int → List Int → Prop) (ns : List Str) (g : Int → List Int → List D) : Sp := fun vs H Q _ => ∃ (x dx o : Addr) (p : Int) (xs : List Int) (k : Hp), vs = [.ref x, .int p, .ref o] ∧ H x = some (.ins C dx []) ∧ k x = none ∧ H o = some (.lst (xs.map V.int)) ∧ k o = none ∧ Same k H ∧ P p xs ∧
  ∀ k' h' ws, Grow (initR x).W k H k' h' → h' x = some (.ins C dx ws) → ws.map (·.1) = ns → RepL K k' (ws.map (·.2)) (g p xs) → Q .non h'
section
variable {P : Program} {w : World} {K : PySem.W.Frag} {mg : Str → Option Value} {base : Heap}
theorem fnIR {x qual : Str} {st : Stmt} {f C : Addr} {fd : FuncData} {N ps : List Str} {k : Nat} {Pr : Int → List Int → Prop} {ns : List Str} {g : Int → List Int → List D} (Fn : Fun K x qual st f fd) (S : FnScope N ps (defScope st)) (hn : ps.length = 3)
    (hbody : ∀ (cdv : Value) (A : Around) (outer : List Env) (sh : Shared) (H : Hp) (E : XK), Room k (A.deeper (envOfC qual (defScope st) sh.heap.objs.size f cdv)) →
      ∃ t, PSs (cxOf (L2.CX P w) P w K mg base N qual (defScope st) f cdv A outer sh H E) (defBody st) t ∧
        ∀ (i dx o : Addr) (p : Int) (xs : List Int) (k0 : Hp), HR ⟨K, initR i, k0, H, false, fun _ => none⟩ o xs → Pr p xs →
          WS ⟨K, initR i, k0, H, false, fun _ => none⟩ t { δ := startD N [.ref i, .int p, .ref o], m := [(i, .ins C dx [] [])], b := 0 }
            { nx := fun ς => ς.m = [(i, .ins C dx ns (g p xs))], rt := fun _ _ => False }) :
    FnOk P w K mg base (L2.CX P w) (k + 1) f fd ps (SpIR K C Pr ns g) := by
  refine Fn.okX S (fun vs H Q E h => by obtain ⟨_, _, _, _, _, _, rfl, _⟩ := h; rw [hn]; rfl) fun cdv A outer sh H vs Q E hr h => ?_
  obtain ⟨t, ht, hw⟩ := hbody cdv A outer sh H E hr
  obtain ⟨i, dx, o, p, xs, k0, rfl, hi, ki, ho, ko, e, hp, hq⟩ := h
  refine ⟨t, ht, ?_⟩
  have rr : RepL K k0 [.ref i, .int p, .ref o] [.ref i, .int p, .ref o] := .cons (.ref i) (.cons (.int p) (.cons (.ref o) .nil))
  have ne : o ≠ i := fun z => by rw [z, hi] at ho; cases ho
  refine hw i dx o p xs k0 ⟨ho, ne, ko⟩ hp (L2.start N _) k0 H ?_ _ ?_
  · refine ⟨Grow.refl e, trivial, fun a z => ?_, fun j d q => start_rep rr q, fun p hp => ?_, ?_, start_len rr.length, fun _ _ z => by cases z⟩
    · have z : a = i := z
      subst z
      exact ⟨ki, by show H _ ≠ none; rw [hi]; simp⟩
    · have z := List.mem_singleton.mp hp
      subst z
      exact ⟨ki, .inr ⟨rfl, rfl⟩, [], hi, rfl, .nil⟩
    · show List.Nodup [i]
      simp
  · refine ⟨fun σ' k' h' ς' S' _ q => ?_, fun _ _ _ _ _ _ q => q.elim, fun _ _ _ _ _ _ q => q.elim, fun v σ' k' h' d ς' S' _ r q => q.elim⟩
    obtain ⟨_, _, ws, a1, a2, a3⟩ := S'.m (i, .ins C dx ns (g p xs)) (by rw [q]; simp)
    exact hq k' h' ws S'.g a1 a2 a3
end
section
variable {c : Cn} {ς : Sta} {Φ : D → Sta → Prop} {Ψ : Psi}
/-- what a new instance's making leaves -/
theorem made_back {x dx C : Addr} {k1 h1 k' h' : Hp} (nx : h1 x = none) (ndx : h1 dx = none) (g : Grow (initR x).W k1 (upd (upd h1 dx (.own x)) x (.ins C dx [])) k' h') : Grow No k1 h1 k' h' := by
  refine ⟨g.kk, g.kh, fun a o _ q => ?_, fun a q => ?_, fun a q n => g.dj a q ?_, g.kt⟩
  · have na : a ≠ x := ne_of_none q nx
    exact g.hh a o na (by rw [upd_ne na, upd_ne (ne_of_none q ndx)]; exact q)
  · refine g.hd a ?_
    have na : a ≠ x := fun e => q (by rw [e]; exact nx)
    have nd : a ≠ dx := fun e => q (by rw [e]; exact ndx)
    rw [upd_ne na, upd_ne nd]
    exact q
  · have na : a ≠ x := fun e => n (by rw [e]; exact nx)
    have nd : a ≠ dx := fun e => n (by rw [e]; exact ndx)
    rw [upd_ne na, upd_ne nd]
    exact n
theorem made_known {x dx C : Addr} {k1 h1 k' h' : Hp} {ws : List (Str × V)} (kx : k1 x = none) (nx : h1 x = none) (ndx : h1 dx = none) (g : Grow (initR x).W k1 (upd (upd h1 dx (.own x)) x (.ins C dx [])) k' h') (ex : h' x = some (.ins C dx ws)) :
    Same k' (upd k' x (.ins C dx ws)) ∧ Grow No k1 h1 (upd k' x (.ins C dx ws)) h' := by
  have g1 := made_back nx ndx g
  have kx' : k' x = none := g.dj x kx (by rw [upd_same]; simp)
  have kk : Same k' (upd k' x (.ins C dx ws)) := same_new kx'
  refine ⟨kk, g1.kk.trans kk, fun a o q => ?_, g1.hh, g1.hd, fun a q n => ?_, fun a ps q => ?_⟩
  · by_cases ea : a = x
    · rw [ea, upd_same] at q
      rw [ea, ex]
      exact q
    · rw [upd_ne ea] at q
      exact g1.kh _ _ q
  · have na : a ≠ x := fun e => n (by rw [e]; exact nx)
    rw [upd_ne na]
    exact g1.dj a q n
  · by_cases ea : a = x
    · rw [ea, upd_same] at q; cases q
    · rw [upd_ne ea] at q; exact g1.kt a ps q
theorem we_makeFl {C : Addr} {n : Nat} {g : List D → Option OutI} {s2 : Sp} {E : XK} {ta : TA} {X : XT} (hE : XOk c E X) (h : WL c ta ς fun ds ς1 => ds.length + 1 = n ∧ ∃ o, g ds = some o ∧ OutJ C Φ X ς1 o) : WE c (tMake C (spOr (SpI c.K n C (spcI g)) s2) [] E ta) ς Φ := fun σ k hh S Q z =>
  h σ k hh S _ fun vs k1 h1 ds ς1 S1 e1 r1 ⟨l, o, h2, h3⟩ x dx nx ndx nex => by
    refine .inl ?_
    rw [List.append_nil]
    have kx : k1 x = none := S1.kh.free nx
    have s1 : Same k1 (upd (upd h1 dx (.own x)) x (.ins C dx [])) := S1.kh.trans ((same_new ndx).trans (same_new (by rw [upd_ne (fun e => nex e.symm)]; exact nx)))
    refine ⟨by rw [List.length_cons, r1.length, l], x, dx, vs, k1, ds, rfl, upd_same, kx, r1, s1, ⟨o, h2⟩, fun ns fs hp k' h' ws g ex en er => ⟨rfl, ?_⟩, fun C' ns fs hx dd ws k' h' g _ e r => ?_⟩
    · obtain ⟨kk, g2⟩ := made_known kx nx ndx g ex
      have e := h2.symm.trans hp
      cases e
      cases h3 with
      | ok q => exact z (.ref x) _ h' _ ς1 (S1.grow g2) (e1.trans g2.kk) (.obj upd_same en (er.mono kk)) q
    · have e' := h2.symm.trans hx
      cases e'
      cases h3 with
      | exc q => exact hE C' ns fs dd ws σ k' h' ς1 (S1.grow (made_back nx ndx g)) e r q
theorem we_makeR {C : Addr} {Pr : Int → List Int → Prop} {ns : List Str} {g : Int → List Int → List D} {s1 : Sp} {E : XK} {ta : TA} (h : WL c ta ς fun ds ς1 => ∃ p o xs, ds = [.int p, .ref o] ∧ Stands c ς1 o xs ∧ Pr p xs ∧ Φ (.obj C ns (g p xs)) ς1) :
    WE c (tMake C (spOr s1 (SpIR c.K C Pr ns g)) [] E ta) ς Φ := fun σ k hh S Q z =>
  h σ k hh S _ fun vs k1 h1 ds ς1 S1 e1 r1 ⟨p, o, xs, ed, st, hp, q⟩ x dx nx ndx nex => by
    subst ed
    cases r1 with
    | cons ra r1 => cases r1 with
      | cons rb r1 =>
        cases ra; cases rb; cases r1
        have kx : k1 x = none := S1.kh.free nx
        have s1 : Same k1 (upd (upd h1 dx (.own x)) x (.ins C dx [])) := S1.kh.trans ((same_new ndx).trans (same_new (by rw [upd_ne (fun e => nex e.symm)]; exact nx)))
        have ho := st.now S1
        have nox : o ≠ x := ne_of_none ho nx
        have nod : o ≠ dx := ne_of_none ho ndx
        refine .inr ⟨x, dx, o, p, xs, k1, rfl, upd_same, kx, by rw [upd_ne nox, upd_ne nod]; exact ho, st.no S1, s1, hp, fun k' h' ws g ex en er => ⟨rfl, ?_⟩⟩
        obtain ⟨kk, g2⟩ := made_known kx nx ndx g ex
        exact z (.ref x) _ h' _ ς1 (S1.grow g2) (e1.trans g2.kk) (.obj upd_same en (er.mono kk)) q
theorem we_makeFR {C : Addr} {n : Nat} {g : List D → Option OutI} {Pr : Int → List Int → Prop} {ns : List Str} {g' : Int → List Int → List D} {E : XK} {ta : TA} {X : XT} (hE : XOk c E X)
    (h : WL c ta ς fun ds ς1 => (ds.length + 1 = n ∧ ∃ o, g ds = some o ∧ OutJ C Φ X ς1 o) ∨ ∃ p o xs, ds = [.int p, .ref o] ∧ Stands c ς1 o xs ∧ Pr p xs ∧ Φ (.obj C ns (g' p xs)) ς1) :
    WE c (tMake C (spOr (SpI c.K n C (spcI g)) (SpIR c.K C Pr ns g')) [] E ta) ς Φ := fun σ k hh S Q z =>
  h σ k hh S _ fun vs k1 h1 ds ς1 S1 e1 r1 q => by
    rcases q with q | q
    · exact we_makeFl (c := c.at k1) (ς := ς1) (Φ := fun d ς' => Φ d ς' ) (ta := fun _ H Q => Q vs H) (X := X) (fun C ns fs dd ws σ k' h' ς' S a r x => hE C ns fs dd ws σ k' h' ς' (S.out S1.kb) a r x) (fun σ' k' h' S' Q' z' => z' vs k' h' ds ς1 S' (Same.refl _) (r1.mono S'.kb) q) σ k1 h1 (S1.into (Same.refl _)) Q fun v k' h' d ς' S' e r x => z v k' h' d ς' (S'.out S1.kb) (e1.trans e) r x
    · exact we_makeR (c := c.at k1) (ς := ς1) (Φ := fun d ς' => Φ d ς' ) (ta := fun _ H Q => Q vs H) (fun σ' k' h' S' Q' z' => z' vs k' h' ds ς1 S' (Same.refl _) (r1.mono S'.kb) (by
        obtain ⟨p, o, xs, ed, st, x⟩ := q
        exact ⟨p, o, xs, ed, st.imp (fun h => ⟨h.at_, h.nw, h.kn⟩) id, x⟩)) σ k1 h1 (S1.into (Same.refl _)) Q fun v k' h' d ς' S' e r x => z v k' h' d ς' (S'.out S1.kb) (e1.trans e) r x
end
/-! ### o.m() that gives a new list of what stands in a field -/
def SpNew (K : PySem.W.Frag) (C : Addr) (f : Str) : Sp := fun vs H Q _ => ∃ (a dx : Addr) (fs : List (Str × V)) (r : Addr) (xs : List V), vs = [.ref a] ∧ H a = some (.ins C dx fs) ∧ fs.lookup f = some (.ref r) ∧ SqL K H r xs ∧ ∀ b, H b = none → Q (.ref b) (upd H b (.lst xs))
section
variable {c : Cn} {ς : Sta} {Φ : D → Sta → Prop} {Ψ : Psi}
theorem we_newD {C : Addr} {m f : Str} {E : XK} {te : TE} (h : WE c te ς fun d ς1 => ∃ ns fs l, d = .obj C ns fs ∧ m ∉ ns ∧ lookD f ns fs = some (.lst l) ∧ Φ (.lst l) ς1) : WE c (tMeth C m (SpNew c.K C f) [] E te tNil) ς Φ := fun σ k hh S Q z =>
  h σ k hh S _ fun v k1 h1 d ς1 S1 e1 r1 ⟨ns, fs, l, ed, nm, hl, q⟩ => by
    subst ed
    cases r1 with
    | obj ek en er =>
      obtain ⟨v', e2, r2⟩ := look_rep en er hl
      cases r2 with
      | lst ek2 er2 =>
        refine ⟨_, _, _, rfl, S1.kh _ _ ek, look_none (by rw [en]; exact nm), _, _, _, _, _, rfl, S1.kh _ _ ek, e2, SqL.of (S1.kh _ _ ek2), fun b nb => ?_⟩
        have g : ∀ {o}, NT o → Grow No k1 h1 (upd k1 b o) (upd h1 b o) := fun t => Grow.new S1.kh nb t
        exact z _ _ _ _ ς1 (S1.grow (g (by nofun))) (e1.trans (g (by nofun)).kk) (.lst upd_same (er2.mono (g (by nofun)).kk)) q
theorem we_newM {C : Addr} {m f : Str} {E : XK} {te : TE} (h : WE c te ς fun d ς1 => ∃ ns fs l, d = .obj C ns fs ∧ m ∉ ns ∧ lookD f ns fs = some (.lst l) ∧ ∀ p, (∀ x ∈ ς1.m, x.1 ≠ p) → Φ (.ref p) { ς1 with m := (p, .lst l) :: ς1.m }) : WE c (tMeth C m (SpNew c.K C f) [] E te tNil) ς Φ := fun σ k hh S Q z =>
  h σ k hh S _ fun v k1 h1 d ς1 S1 e1 r1 ⟨ns, fs, l, ed, nm, hl, q⟩ => by
    subst ed
    cases r1 with
    | obj ek en er =>
      obtain ⟨v', e2, r2⟩ := look_rep en er hl
      cases r2 with
      | lst ek2 er2 =>
        refine ⟨_, _, _, rfl, S1.kh _ _ ek, look_none (by rw [en]; exact nm), _, _, _, _, _, rfl, S1.kh _ _ ek, e2, SqL.of (S1.kh _ _ ek2), fun b nb => ?_⟩
        obtain ⟨S2, np⟩ := S1.newM nb er2
        exact z (.ref b) k1 _ _ _ S2 e1 (.ref b) (q b np)
end
end DL
namespace DL
open PySem PySem.Spec PyProof.Rows L2 DX
section
variable {c : Cn} {ς : Sta} {Φ : D → Sta → Prop} {s l : Addr} {E : XK}
theorem we_drawE {j : Nat} {te : TE} (V : SubR c (strm s l)) (h0 : ς.δ[j]? = some (some (.ref s))) (h : WE c te ς fun d ς1 => ∃ n : Int, d = .int n ∧ 0 < n ∧ n ≤ 1000000 ∧ ς1.b ≤ 1000000000000 ∧ ∀ x, 0 ≤ x → x < n → Φ (.int x) { ς1 with b := ς1.b + 1 }) :
    WE c (tCall (SpS c.K 2 drawS) [] E (tCons (tVar j) (tCons te tNil))) ς Φ := by
  refine we_callR V (X := fun _ _ _ _ => False) xok0 (wl_cons (we_var h0 (wl_cons fun σ k hh S Q z => h σ k hh S Q fun v k' h' d ς' S' e r ⟨n, ed, h1, h2, h3, h4⟩ => z v k' h' d ς' S' e r (wl_nil ⟨rfl, ⟨s, l, _, rfl, rfl, n, by rw [ed], h1, h2, h3⟩, ?_, fun _ _ _ _ z => z⟩))))
  rintro d' b ⟨a, as, e, n', x, e2, rfl, x1, x2, rfl⟩
  cases e
  subst ed
  cases e2
  exact h4 x x1 x2
end
end DL

set_option Elab.async false
set_option linter.all false
set_option maxRecDepth 100000
set_option maxHeartbeats 4000000
/-! methods that give a list that may be written; range(i, j, -1) -/
namespace DL
open PySem PySem.Spec PyProof.Rows L2 DX
/-- the answer is a new list, known to none -/
def SpNM (K : PySem.W.Frag) (n : Nat) (ok : List D → Prop) (g : List D → List D) : Sp := fun vs H Q _ => vs.length = n ∧ ∃ (k : Hp) (ds : List D), RepL K k vs ds ∧ Same k H ∧ ok ds ∧
  ∀ b k' h' us, Grow No k H k' h' → H b = none → k' b = none → h' b = some (.lst us) → RepL K k' us (g ds) → Q (.ref b) h'
section
variable {P : Program} {w : World} {K : PySem.W.Frag} {mg : Str → Option Value} {base : Heap}
theorem fnNM {x qual : Str} {st : Stmt} {f : Addr} {fd : FuncData} {N ps : List Str} {k n : Nat} {ok : List D → Prop} {g : List D → List D} (Fn : Fun K x qual st f fd) (S : FnScope N ps (defScope st)) (hn : ps.length = n)
    (hbody : ∀ (cdv : Value) (A : Around) (outer : List Env) (sh : Shared) (H : Hp) (E : XK), Room k (A.deeper (envOfC qual (defScope st) sh.heap.objs.size f cdv)) →
      ∃ t, PSs (cxOf (L2.CX P w) P w K mg base N qual (defScope st) f cdv A outer sh H E) (defBody st) t ∧
        ∀ (k0 : Hp) (ds : List D), ok ds → ds.length = n →
          WS ⟨K, Res.none, k0, H, true, fun _ => none⟩ t { δ := startD N ds, b := 0 } { nx := fun _ => False, rt := fun d ς => ∃ b, d = .ref b ∧ ς.m = [(b, MO.lst (g ds))] }) :
    FnOk P w K mg base (L2.CX P w) (k + 1) f fd ps (SpNM K n ok g) := by
  refine Fn.okX S (fun vs H Q E h => by rw [h.1, hn]) fun cdv A outer sh H vs Q E hr h => ?_
  obtain ⟨t, ht, hw⟩ := hbody cdv A outer sh H E hr
  obtain ⟨hl, k0, ds, rl, e, hp, hq⟩ := h
  refine ⟨t, ht, ?_⟩
  refine hw k0 ds hp (by rw [← rl.length, hl]) (L2.start N vs) k0 H ⟨Grow.refl e, trivial, fun _ z => z.elim, fun i d q => start_rep rl q, fun p hp => absurd hp (by simp), List.nodup_nil, start_len rl.length, fun _ _ z => by cases z⟩ _ ?_
  refine ⟨fun _ _ _ _ _ _ q => q.elim, fun _ _ _ _ _ _ q => q.elim, fun _ _ _ _ _ _ q => q.elim, fun v σ' k' h' d ς' S' _ r q => ?_⟩
  obtain ⟨b, rfl, em⟩ := q
  cases r
  obtain ⟨a1, a2, us, a3, a4⟩ := S'.m (b, MO.lst (g ds)) (by rw [em]; simp)
  have a2 : H b = none := by
    rcases a2 with z | ⟨z, _⟩
    · exact z
    · cases z
  exact hq b k' h' us S'.g a2 a1 a3 a4
end
section
variable {c : Cn} {ς : Sta} {Φ : D → Sta → Prop} {Ψ : Psi}
/-- the state behind such a call -/
theorem SR.got {σ : L2.St} {k1 h1 k' h' : Hp} {b : Addr} {us : List V} {ds : List D} (S1 : SR c ς σ k1 h1) (g : Grow No k1 h1 k' h') (hb : h1 b = none) (kb : k' b = none) (eb : h' b = some (.lst us)) (r : RepL c.K k' us ds) : SR c { ς with m := (b, .lst ds) :: ς.m } σ k' h' ∧ ∀ x ∈ ς.m, x.1 ≠ b := by
  have S2 := S1.grow g
  have np : ∀ x ∈ ς.m, x.1 ≠ b := fun x hx e => (S1.m x hx).2.2.there (by rw [e]; exact hb)
  refine ⟨⟨S2.g, S2.i, S2.w, S2.s, fun x hx => ?_, ?_, S2.len, S2.kb⟩, np⟩
  · rcases List.mem_cons.mp hx with e | hx
    · subst e
      refine ⟨kb, ?_, ⟨us, eb, r⟩⟩
      cases y : c.h0 b with
      | none => exact .inl rfl
      | some o => exact absurd hb (S1.g.hd b (by rw [y]; simp))
    · exact S2.m x hx
  · rw [List.map_cons]
    refine List.nodup_cons.mpr ⟨fun hm => ?_, S1.nd⟩
    obtain ⟨x, hx, e⟩ := List.mem_map.mp hm
    exact np x hx e
theorem SR.known {σ : L2.St} {k1 h1 k' h' : Hp} {b : Addr} {us : List V} {ds : List D} (S1 : SR c ς σ k1 h1) (g : Grow No k1 h1 k' h') (hb : h1 b = none) (kb : k' b = none) (eb : h' b = some (.lst us)) (r : RepL c.K k' us ds) : SR c ς σ (upd k' b (.lst us)) h' ∧ Same k1 (upd k' b (.lst us)) ∧ Rep c.K (upd k' b (.lst us)) (.ref b) (.lst ds) := by
  have kk : Same k' (upd k' b (.lst us)) := same_new kb
  have g2 : Grow No k1 h1 (upd k' b (.lst us)) h' := by
    refine ⟨g.kk.trans kk, fun a o q => ?_, g.hh, g.hd, fun a q n => ?_, fun a ps q => ?_⟩
    · by_cases ea : a = b
      · rw [ea, upd_same] at q
        rw [ea, eb]
        exact q
      · rw [upd_ne ea] at q
        exact g.kh _ _ q
    · have na : a ≠ b := fun e => n (by rw [e]; exact hb)
      rw [upd_ne na]
      exact g.dj a q n
    · by_cases ea : a = b
      · rw [ea, upd_same] at q; cases q
      · rw [upd_ne ea] at q; exact g.kt a ps q
  exact ⟨S1.grow g2, g2.kk, .lst upd_same (r.mono kk)⟩
theorem we_nmD {C : Addr} {m : Str} {n : Nat} {ok : List D → Prop} {g : List D → List D} {E : XK} {te : TE} {ta : TA} (h : WE c te ς fun d ς0 => ∃ ns fs, d = .obj C ns fs ∧ m ∉ ns ∧ WL c ta ς0 fun ds ς1 => (d :: ds).length = n ∧ ok (d :: ds) ∧ Φ (.lst (g (d :: ds))) ς1) :
    WE c (tMeth C m (SpNM c.K n ok g) [] E te ta) ς Φ := fun σ k hh S Q z =>
  h σ k hh S _ fun v k0 h0 d ς0 S0 e0 r0 ⟨ns, fs, ed, nm, q0⟩ => by
    subst ed
    have r0' := r0
    cases r0 with
    | obj ek en er =>
      refine ⟨_, _, _, rfl, S0.kh _ _ ek, look_none (by rw [en]; exact nm), ?_⟩
      refine q0 σ k0 h0 S0 _ fun vs k1 h1 ds ς1 S1 e1 r1 ⟨l, p, q⟩ => ?_
      rw [List.append_nil]
      have rr : RepL c.K k1 (_ :: vs) (_ :: ds) := .cons (r0'.mono e1) r1
      refine ⟨by rw [rr.length, l], k1, _ :: ds, rr, S1.kh, p, fun b k' h' us g hb kb eb r => ?_⟩
      obtain ⟨S2, e2, r2⟩ := S1.known g hb kb eb r
      exact z _ _ _ _ ς1 S2 ((e0.trans e1).trans e2) r2 q
theorem we_nmM {C : Addr} {m : Str} {n : Nat} {ok : List D → Prop} {g : List D → List D} {E : XK} {te : TE} {ta : TA} (h : WE c te ς fun d ς0 => ∃ ns fs, d = .obj C ns fs ∧ m ∉ ns ∧ WL c ta ς0 fun ds ς1 => (d :: ds).length = n ∧ ok (d :: ds) ∧ ∀ b, (∀ x ∈ ς1.m, x.1 ≠ b) → Φ (.ref b) { ς1 with m := (b, .lst (g (d :: ds))) :: ς1.m }) :
    WE c (tMeth C m (SpNM c.K n ok g) [] E te ta) ς Φ := fun σ k hh S Q z =>
  h σ k hh S _ fun v k0 h0 d ς0 S0 e0 r0 ⟨ns, fs, ed, nm, q0⟩ => by
    subst ed
    have r0' := r0
    cases r0 with
    | obj ek en er =>
      refine ⟨_, _, _, rfl, S0.kh _ _ ek, look_none (by rw [en]; exact nm), ?_⟩
      refine q0 σ k0 h0 S0 _ fun vs k1 h1 ds ς1 S1 e1 r1 ⟨l, p, q⟩ => ?_
      rw [List.append_nil]
      have rr : RepL c.K k1 (_ :: vs) (_ :: ds) := .cons (r0'.mono e1) r1
      refine ⟨by rw [rr.length, l], k1, _ :: ds, rr, S1.kh, p, fun b k' h' us g hb kb eb r => ?_⟩
      obtain ⟨S2, np⟩ := S1.got g hb kb eb r
      exact z _ k' h' _ _ S2 ((e0.trans e1).trans g.kk) (.ref b) (q b np)
/-- xs * n, to be written -/
theorem we_repM {ta tb : TE} (h : WE c ta ς fun d1 ς1 => WE c tb ς1 fun d2 ς2 => ∃ xs n, d1 = .lst xs ∧ d2 = .int n ∧ (-(2 ^ 63) ≤ n ∧ n < 2 ^ 63 ∧ xs.length * n.toNat ≤ sizeLine) ∧ ∀ p, (∀ x ∈ ς2.m, x.1 ≠ p) → Φ (.ref p) { ς2 with m := (p, .lst (List.replicate n.toNat xs).flatten) :: ς2.m }) :
    WE c (tOp rMulK ta tb) ς Φ := fun σ k hh S Q z =>
  h σ k hh S _ fun v1 k1 h1 d1 ς1 S1 e1 r1 q1 => q1 σ k1 h1 S1 _ fun v2 k2 h2 d2 ς2 S2 e2 r2 ⟨xs, n, ed1, ed2, ⟨l1, l2, l3⟩, q⟩ => by
    subst ed1
    subst ed2
    cases r1 with
    | lst ek er =>
      cases r2
      refine .inr (.inr ⟨_, n, _, rfl, rfl, S2.kh _ _ (e2 _ _ ek), l1, l2, by rw [er.length]; exact l3, fun p np => ?_⟩)
      have er2 := er.mono e2
      have rr : ∀ m : Nat, RepL c.K k2 (List.replicate m _).flatten (List.replicate m xs).flatten := fun m => by
        induction m with
        | zero => exact .nil
        | succ m ih =>
          rw [List.replicate_succ, List.replicate_succ, List.flatten_cons, List.flatten_cons]
          exact er2.append ih
      obtain ⟨S3, nm⟩ := S2.newM np (rr n.toNat)
      exact z (.ref p) k2 _ _ _ S3 (e1.trans e2) (.ref p) (q p nm)
def rngC (lo cc : Int) (n : Nat) : List D := (List.range n).map fun i => .int (lo + (i : Nat) * cc)
theorem rngC_len (lo cc : Int) (n : Nat) : (rngC lo cc n).length = n := by unfold rngC; rw [List.length_map, List.length_range]
theorem rngC_get {lo cc : Int} {n i : Nat} {d : D} (h : (rngC lo cc n)[i]? = some d) : d = .int (lo + (i : Nat) * cc) ∧ i < n := by
  have hi : i < n := by
    have := (List.getElem?_eq_some_iff.mp h).1
    rwa [rngC_len] at this
  unfold rngC at h
  rw [List.getElem?_map, List.getElem?_range hi] at h
  exact ⟨(Option.some.inj h).symm, hi⟩
theorem wi_rng3 {ta : TA} {Φ : List D → Sta → Prop} (h : WL c ta ς fun ds ς1 => ∃ i j : Int, ds = [.int i, .int j, .int (-1)] ∧ (-(2 ^ 62) ≤ i ∧ i < 2 ^ 62 ∧ -(2 ^ 62) ≤ j ∧ j < 2 ^ 62) ∧ Φ (rngC i (-1) (i - j).toNat) ς1) : WI c (iRng3 ta) ς Φ := fun σ k hh S R z =>
  h σ k hh S _ fun vs k1 h1 ds ς1 S1 e1 r1 ⟨i, j, ed, ⟨a1, a2, a3, a4⟩, q⟩ => by
    subst ed
    cases r1 with
    | cons r1 r2 => cases r2 with
      | cons r2 r3 => cases r3 with
        | cons r3 r4 =>
          cases r1; cases r2; cases r3; cases r4
          refine ⟨i, j, -1, _, rfl, RgC.neg a1 a2 a3 a4, z _ k1 h1 _ ς1 S1 e1 ⟨fun i h hi _ => by rw [rngC_len] at hi; exact hi, fun h _ => by rw [rngC_len]; exact Nat.le_refl _, fun i h x h' d ed y kc e1 ⟨e2, _⟩ => ?_⟩ q⟩
          obtain ⟨rfl, rfl⟩ := y
          obtain ⟨rfl, _⟩ := rngC_get ed
          exact ⟨kc, Grow.refl e2, .int _⟩
end
end DL

set_option Elab.async false
set_option linter.all false
set_option maxRecDepth 100000
set_option maxHeartbeats 4000000
/-! own operators that may raise; a, b = a list -/
namespace DK
open PySem PySem.Spec PyProof.Rows L2
variable {X : Cx} {K : PySem.W.Frag}
theorem pg_lst {es : List Expr} {k : Nat} {t : TGs} {n : Nat} {pos : Pos} (hc : X.calm = true) (ha : PGs X es t) (h : X.K = K := by rfl)
    (hn : (assignEach es X.env).length = n := by rfl) (hst : (assignEach es X.env).findIdx? (·.1) = none := by rfl) : PG X (.Tuple es k pos) (gLst K n t) := by subst h; exact L2.pg_lst hc ha hn hst
end DK
namespace DL
open PySem PySem.Spec PyProof.Rows L2 DX
section
variable {c : Cn} {ς : Sta} {Φ : D → Sta → Prop} {Ψ : Psi}
theorem wg_lst {n : Nat} {gs : TGs} {ds : List D} {Φ : Sta → Prop} (hn : ds.length = n) (h : WGs c gs ds ς Φ) : WG c (gLst c.K n gs) (.lst ds) ς Φ := fun σ k hh v S r Q z => by
  cases r with
  | lst ek er => exact ⟨_, _, rfl, SqL.of (S.kh _ _ ek), by rw [er.length]; exact hn, h σ k hh _ S er Q z⟩
/-- an own operator, its outcome told by g -/
theorem we_binIF {C : Addr} {g : List D → Option Out} {E : XK} {ta tb : TE} {X : XT} (hE : XOk c E X)
    (h : WE c ta ς fun d1 ς1 => WE c tb ς1 fun d2 ς2 => ∃ ns fs ns' fs' o, d1 = .obj C ns fs ∧ d2 = .obj C ns' fs' ∧ g [d1, d2] = some o ∧ OutP Φ X ς2 o) : WE c (tOp (rBinI C (SpS c.K 2 (spcF g)) E) ta tb) ς Φ := fun σ k hh S Q z =>
  h σ k hh S _ fun v1 k1 h1 d1 ς1 S1 e1 r1 q1 => q1 σ k1 h1 S1 _ fun v2 k2 h2 d2 ς2 S2 e2 r2 ⟨ns, fs, ns', fs', o, ed1, ed2, hg, h3⟩ => by
    subst ed1
    subst ed2
    have rr1 := r1.mono e2
    have rr2 := r2
    cases r1 with
    | obj ek en er =>
      cases r2 with
      | obj ek2 en2 er2 =>
        refine ⟨_, _, _, _, _, _, rfl, rfl, S2.kh _ _ (e2 _ _ ek), S2.kh _ _ ek2, ?_⟩
        refine ⟨rfl, Res.none, k2, _, 0, .cons rr1 (.cons rr2 .nil), S2.kh, trivial, fun a z => z.elim, ⟨o, hg⟩, fun d b q v k' h' g' _ r => ?_, fun C ns fs b q dd ws k' h' g' _ e r => ?_⟩
        · have e := hg.symm.trans q.1
          cases e
          cases h3 with
          | ret q => exact z v k' h' d ς2 (S2.grow g') ((e1.trans e2).trans g'.kk) r q
        · have e' := hg.symm.trans q.1
          cases e'
          cases h3 with
          | exc q => exact hE C ns fs dd ws σ k' h' ς2 (S2.grow g') e r q
end
end DL

set_option Elab.async false
set_option linter.all false
set_option maxRecDepth 100000
set_option maxHeartbeats 4000000
/-! x in a list that changes, extend, f(int, list by place), defs whose lambdas are handed on -/
namespace DL
open PySem PySem.Spec PyProof.Rows L2 DX
section
variable {c : Cn} {ς : Sta} {Φ : D → Sta → Prop} {Ψ : Psi}
/-- x in xs, xs a list that may change -/
theorem we_inM {j : Nat} {o : Addr} {ds : List D} {ta tb : TE} (h : WE c ta ς fun x ς1 => WE c tb ς1 fun e ς2 => e = .ref o ∧ ς2.m[j]? = some (o, .lst ds) ∧ flatD x = true ∧ ds.all flatD = true ∧ Φ (.bl (ds.any fun y => eqF y x)) ς2) :
    WE c (tOp (rInK c.K) ta tb) ς Φ := fun σ k hh S Q z =>
  h σ k hh S _ fun v1 k1 h1 d1 ς1 S1 e1 r1 q1 => q1 σ k1 h1 S1 _ fun v2 k2 h2 d2 ς2 S2 e2 r2 ⟨ed, ej, fx, fl, q⟩ => by
    subst ed
    cases r2
    obtain ⟨a1, a2, vs, hv, rv⟩ := S2.at ej
    have r1' := r1.mono e2
    refine .inl ⟨o, vs, rfl, .inl (SqL.of hv), by rw [r1'.flat]; exact fx, by rw [rv.flat]; exact fl, ?_⟩
    rw [if_neg Bool.false_ne_true, rv.inV r1' fx fl]
    exact z _ k2 h2 _ ς2 S2 (e1.trans e2) (.bl _) q
/-- xs.extend(ys) -/
theorem ws_extend {j : Nat} {o : Addr} {ds : List D} {to te : TE} (hI : ∀ b h h', c.fr = false → c.R.I b h → c.R.I b h' := by first | exact (fun _ _ _ z => nomatch z) | exact (fun _ _ _ _ z => z))
    (h : WE c to ς fun d ς1 => d = .ref o ∧ (∃ ds, ς1.m[j]? = some (o, .lst ds)) ∧ WE c te ς1 fun e ς2 => ∃ es, e = .lst es ∧ ς2.m[j]? = some (o, .lst ds) ∧ ds.length + es.length ≤ sizeLine ∧ Ψ.nx { ς2 with m := ς2.m.set j (o, .lst (ds ++ es)) }) :
    WS c (tDrop (tBM c.K "list" rExtend to (tCons te tNil))) ς Ψ := fun σ k hh S E z =>
  h σ k hh S _ fun v k1 h1 d ς1 S1 e1 r1 ⟨ed, ⟨ds0, ej0⟩, q⟩ => by
    subst ed
    cases r1
    obtain ⟨_, _, vs0, hv0, _⟩ := S1.at ej0
    refine ⟨.inl ⟨rfl, vs0, SqL.of hv0⟩, q σ k1 h1 S1 _ fun y k2 h2 e ς2 S2 e2 r2 ⟨es, ee, ej, l, q2⟩ => ?_⟩
    subst ee
    cases r2 with
    | lst ek er =>
      obtain ⟨a1, a2, vs, hv, rv⟩ := S2.at ej
      refine ⟨o, _, vs, _, rfl, rfl, hv, S2.kh _ _ ek, by rw [rv.length, er.length]; exact l, ?_⟩
      exact z.nx σ k2 _ _ (S2.put (mo' := .lst (ds ++ es)) ej hI ⟨vs ++ _, upd_same, rv.append er⟩) (e1.trans e2) q2
end
/-! ### f(p, xs): xs by its place -/
def SpR2 (K : PySem.W.Frag) (Pr : Int → List Int → Prop) (g : Int → List Int → D) : Sp := fun vs H Q _ => ∃ (o : Addr) (p : Int) (xs : List Int) (k : Hp), vs = [.int p, .ref o] ∧ H o = some (.lst (xs.map V.int)) ∧ k o = none ∧ Same k H ∧ Pr p xs ∧ ∀ v k' h', Grow No k H k' h' → Rep K k' v (g p xs) → Q v h'
section
variable {P : Program} {w : World} {K : PySem.W.Frag} {mg : Str → Option Value} {base : Heap}
theorem fnR2 {x qual : Str} {st : Stmt} {f : Addr} {fd : FuncData} {N ps : List Str} {k : Nat} {Pr : Int → List Int → Prop} {g : Int → List Int → D} (Fn : Fun K x qual st f fd) (S : FnScope N ps (defScope st)) (hn : ps.length = 2)
    (hbody : ∀ (cdv : Value) (A : Around) (outer : List Env) (sh : Shared) (H : Hp) (E : XK), Room k (A.deeper (envOfC qual (defScope st) sh.heap.objs.size f cdv)) →
      ∃ t, PSs (cxOf (L2.CX P w) P w K mg base N qual (defScope st) f cdv A outer sh H E) (defBody st) t ∧
        ∀ (k0 : Hp) (o : Addr) (p : Int) (xs : List Int), HR ⟨K, Res.none, k0, H, true, fun _ => none⟩ o xs → Pr p xs →
          WS ⟨K, Res.none, k0, H, true, fun _ => none⟩ t { δ := startD N [.int p, .ref o], b := 0 } { nx := fun _ => g p xs = .non, rt := fun d _ => d = g p xs }) :
    FnOk P w K mg base (L2.CX P w) (k + 1) f fd ps (SpR2 K Pr g) := by
  refine Fn.okX S (fun vs H Q E h => by obtain ⟨_, _, _, _, rfl, _⟩ := h; rw [hn]; rfl) fun cdv A outer sh H vs Q E hr h => ?_
  obtain ⟨t, ht, hw⟩ := hbody cdv A outer sh H E hr
  obtain ⟨o, p, xs, k0, rfl, ho, ko, e, hl, hq⟩ := h
  refine ⟨t, ht, ?_⟩
  have rr : RepL K k0 [.int p, .ref o] [.int p, .ref o] := .cons (.int p) (.cons (.ref o) .nil)
  refine hw k0 o p xs ⟨ho, fun z => z, ko⟩ hl (L2.start N _) k0 H ⟨Grow.refl e, trivial, fun _ z => z.elim, fun i d q => start_rep rr q, fun p hp => absurd hp (by simp), List.nodup_nil, start_len rr.length, fun _ _ z => by cases z⟩ _ ?_
  exact ⟨fun σ' k' h' ς' S' _ q => hq .non k' h' S'.g (by rw [q]; exact .non), fun _ _ _ _ _ _ q => q.elim, fun _ _ _ _ _ _ q => q.elim, fun v σ' k' h' d ς' S' _ r q => hq v k' h' S'.g (by rw [← q]; exact r)⟩
end
section
variable {c : Cn} {ς : Sta} {Φ : D → Sta → Prop} {Ψ : Psi}
theorem we_callR2 {Pr : Int → List Int → Prop} {g : Int → List Int → D} {s1 : Sp} {E : XK} {ta : TA} (h : WL c ta ς fun ds ς1 => ∃ p o xs, ds = [.int p, .ref o] ∧ Stands c ς1 o xs ∧ Pr p xs ∧ Φ (g p xs) ς1) : WE c (tCall (spOr s1 (SpR2 c.K Pr g)) [] E ta) ς Φ := fun σ k hh S Q z =>
  h σ k hh S _ fun vs k1 h1 ds ς1 S1 e1 r1 ⟨p, o, xs, ed, st, l, q⟩ => by
    subst ed
    cases r1 with
    | cons r0 r1 =>
      cases r0
      cases r1 with
      | cons r1 r2 =>
        cases r1; cases r2
        exact .inr ⟨o, p, xs, k1, rfl, st.now S1, st.no S1, S1.kh, l, fun v k' h' g r => z v k' h' _ ς1 (S1.grow g) (e1.trans g.kk) r q⟩
end
/-! ### a def that draws and hands lambdas on -/
noncomputable abbrev resT (s l : Addr) (Tb : List (Addr × Str)) (H : Hp) : Hp := fun z => open Classical in if (strmT s l Tb).W z then H z else none
noncomputable abbrev tabC (K : PySem.W.Frag) (s l : Addr) (Tb : List (Addr × Str)) (k H : Hp) : Cn := ⟨K, strmT s l Tb, k, resT s l Tb H, true, fun _ => none⟩
def SpTab (K : PySem.W.Frag) (n : Nat) (Tb : List (Addr × Str)) (Pr : List D → Nat → Prop) (Po : List D → Nat → D → Nat → Prop) : Sp := fun vs H Q _ => vs.length = n ∧ ∃ (s l : Addr) (k : Hp) (as : List D) (b : Nat), RepL K k vs (.ref s :: as) ∧ Same k H ∧ (strmT s l Tb).I b H ∧ (∀ a, (strmT s l Tb).W a → k a = none ∧ H a ≠ none) ∧
  (∀ a ps, k a ≠ some (.tbl ps)) ∧ Pr as b ∧ ∀ d b', Po as b d b' → ∀ v k' h', Grow (strmT s l Tb).W k (resT s l Tb H) k' h' → (strmT s l Tb).I b' h' → Rep K k' v d → Q v h'
section
variable {P : Program} {w : World} {K : PySem.W.Frag} {mg : Str → Option Value} {base : Heap}
theorem tab_run {N : List Str} {n : Nat} {Tb : List (Addr × Str)} {Pr : List D → Nat → Prop} {Po : List D → Nat → D → Nat → Prop} {t : TS} {vs : List V} {H : Hp} {Q : VK} {E : XK} (h : SpTab K n Tb Pr Po vs H Q E)
    (hw : ∀ (s l : Addr) (k0 : Hp) (as : List D) (b : Nat), Pr as b → (D.ref s :: as).length = n → TabR (tabC K s l Tb k0 H) Tb → SubR (tabC K s l Tb k0 H) (strm s l) →
          WS (tabC K s l Tb k0 H) t { δ := startD N (.ref s :: as), b := b } { nx := fun ς => Po as b .non ς.b, rt := fun d ς => Po as b d ς.b }) :
    t { nx := fun _ H' => Q .non H', rt := Q } (L2.start N vs) H := by
  obtain ⟨hl, s, l, k0, as, b, rl, e, hi, hW, hT, hp, hq⟩ := h
  have TR : TabR (tabC K s l Tb k0 H) Tb := strmT_tab rfl rfl hT fun a ps q => by
    have q : (open Classical in if (strmT s l Tb).W a then H a else none) = some (.tbl ps) := q
    split at q
    · assumption
    · cases q
  have S0 : SR (tabC K s l Tb k0 H) { δ := startD N (.ref s :: as), b := b } (L2.start N vs) k0 H := by
    refine ⟨⟨Same.refl _, e, fun a o nw q => ?_, fun a q => ?_, fun _ q _ => q, fun _ _ q => q⟩, hi, fun a wa => ⟨(hW a wa).1, ?_⟩, fun i d q => start_rep rl q, fun p hp => absurd hp (by simp), List.nodup_nil, start_len rl.length, fun _ _ z => by cases z⟩
    · have q : (open Classical in if (strmT s l Tb).W a then H a else none) = some o := q
      rw [if_neg nw] at q
      cases q
    · have q : (open Classical in if (strmT s l Tb).W a then H a else none) ≠ none := q
      split at q
      · exact q
      · exact absurd rfl q
    · show (open Classical in if (strmT s l Tb).W a then H a else none) ≠ none
      rw [if_pos wa]
      exact (hW a wa).2
  refine hw s l k0 as b hp (by rw [← rl.length, hl]) TR (strmT_sub rfl rfl) (L2.start N vs) k0 H S0 _ ?_
  exact ⟨fun σ' k' h' ς' S' _ q => hq .non ς'.b q .non k' h' S'.g S'.i .non, fun _ _ _ _ _ _ q => q.elim, fun _ _ _ _ _ _ q => q.elim, fun v σ' k' h' d ς' S' _ r q => hq d ς'.b q v k' h' S'.g S'.i r⟩
end
section
variable {c : Cn} {ς : Sta} {Φ : D → Sta → Prop} {s l : Addr} {E : XK}
/-- such a def called, the caller's lists all known -/
theorem we_callTab {n j : Nat} {Tb : List (Addr × Str)} {Pr : List D → Nat → Prop} {Po : List D → Nat → D → Nat → Prop} {ta : TA} (V : TabR c Tb) (hR : c.R = strmT s l Tb) (h0 : ∀ a, c.h0 a ≠ none → c.R.W a)
    (h : WL c ta ς fun ds ς1 => ∃ as, ds = .ref s :: as ∧ ds.length = n ∧ ς1.m = [] ∧ Pr as ς1.b ∧ ∀ d b, Po as ς1.b d b → Φ d { ς1 with b := b }) : WE c (tCall (SpTab c.K n Tb Pr Po) [] E ta) ς Φ := fun σ k hh S Q z =>
  h σ k hh S _ fun vs k1 h1 ds ς1 S1 e1 r1 ⟨as, ed, el, em, p, q⟩ => by
    rw [List.append_nil]
    have i1 := S1.i
    rw [hR] at i1
    have w1 : ∀ a, (strmT s l Tb).W a → c.R.W a := fun a wa => by rw [hR]; exact wa
    have wW : ∀ a, (strmT s l Tb).W a → k1 a = none ∧ h1 a ≠ none := fun a wa => ⟨S1.g.dj a (S1.w a (w1 a wa)).1 (S1.w a (w1 a wa)).2, S1.g.hd a (S1.w a (w1 a wa)).2⟩
    refine ⟨by rw [r1.length, el], s, l, k1, as, ς1.b, by rw [← ed]; exact r1, S1.kh, i1, wW, fun a ps q => V.k0 a ps (S1.g.kt a ps q), p, fun d b' po v k' h' g i r => ?_⟩
    have i' : c.R.I b' h' := by rw [hR]; exact i
    refine z v k' h' d { ς1 with b := b' } ⟨⟨S1.g.kk.trans g.kk, g.kh, fun a o nw q => absurd (h0 a (by rw [q]; simp)) nw, fun a q => ?_, fun a q n => ?_, fun a ps q => S1.g.kt a ps (g.kt a ps q)⟩, i', S1.w, fun i d q => ?_, fun p hp => by
      have hp : p ∈ ς1.m := hp
      rw [em] at hp
      exact absurd hp (by simp), S1.nd, S1.len, S1.kb.trans g.kk⟩ (e1.trans g.kk) r (q d b' po)
    · have wa := h0 a q
      exact V.there _ _ _ i' wa
    · have wa := h0 a n
      have wa' : (strmT s l Tb).W a := by rw [← hR]; exact wa
      refine g.dj a (wW a wa').1 ?_
      show (open Classical in if (strmT s l Tb).W a then h1 a else none) ≠ none
      rw [if_pos wa']
      exact (wW a wa').2
    · obtain ⟨v, a, r⟩ := S1.s i d q
      exact ⟨v, a, r.mono g.kk⟩
end
end DL

set_option Elab.async false
set_option linter.all false
set_option maxRecDepth 100000
set_option maxHeartbeats 4000000
/-! a comprehension whose element writes to lists of the def's own -/
namespace DL
open PySem PySem.Spec PyProof.Rows L2 DX
section
variable {c : Cn} {ς : Sta} {Φ : D → Sta → Prop} {Ψ : Psi}
theorem we_lcG {wi : TI} {g : TG} {tt : TT} {te : TE} {vs : List Nat} (kg : KG g vs) (h : WI c wi ς fun ds ς1 => ∃ Jv : Nat → List D → List (Addr × MO) → Nat → Prop, Jv 0 [] ς1.m ς1.b ∧
    (∀ i d acc m b D, ds[i]? = some d → Jv i acc m b → WG c g d { δ := wipeD ς1.δ vs, m := (D, .lst acc) :: m, b := b } fun ς2 => WT c tt ς2 fun x ς3 =>
      (x = true → WE c te ς3 fun e ς4 => acc.length < sizeLine ∧ ∃ m2, ς4.m = (D, .lst acc) :: m2 ∧ Jv (i + 1) (acc ++ [e]) m2 ς4.b) ∧ (x = false → ∃ m2, ς3.m = (D, .lst acc) :: m2 ∧ Jv (i + 1) acc m2 ς3.b)) ∧
    ∀ acc m b, Jv ds.length acc m b → Φ (.lst acc) { ς1 with m := m, b := b }) : WE c (tLc wi g tt te vs) ς Φ := fun σ k hh S Q z =>
  h σ k hh S _ fun J k1 h1 ds ς1 S1 e1 w ⟨Jv, j0, js, jd⟩ L nL => by
    have lower : ∀ {m : List (Addr × MO)} {δ : List (Option D)} {τ : L2.St} {b : Nat} {k2 h2 : Hp}, SR c ⟨δ, m, b⟩ τ k2 h2 → Same k1 k2 → SR c { ς1 with m := m, b := b } σ k2 h2 := fun {m δ τ b k2 h2} S2 e =>
      ⟨S2.g, S2.i, S2.w, fun i d q => by
        obtain ⟨v, a, r⟩ := S1.s i d q
        exact ⟨v, a, r.mono e⟩, S2.m, S2.nd, S1.len, S2.kb⟩
    have nk : k1 L = none := S1.kh.free nL
    have nm : ∀ x ∈ ς1.m, x.1 ≠ L := fun x hx e => (S1.m x hx).2.2.there (by rw [e]; exact nL)
    have n0 : c.h0 L = none := by
      cases y : c.h0 L with
      | none => rfl
      | some o => exact absurd nL (S1.g.hd L (by rw [y]; simp))
    refine lc_it w.walk (fun i h => ∃ k acc m b, SR c { ς1 with m := (L, .lst acc) :: m, b := b } σ k h ∧ Same k1 k ∧ Jv i acc m b) ⟨k1, [], ς1.m, ς1.b, ?_, Same.refl _, j0⟩ (fun i H _ ⟨k, acc, m, b, S, e, _⟩ => ⟨e.trans S.kh, _, _, k, S, e⟩) ?_ ?_
    · have g : Grow (fun _ => False) k1 h1 k1 (upd h1 L (.lst [])) := Grow.newU S1.kh nL
      have S2 := S1.grow g
      refine ⟨S2.g, S2.i, S2.w, S2.s, fun x hx => ?_, ?_, S2.len, S2.kb⟩
      · rcases List.mem_cons.mp hx with e | hx
        · subst e
          exact ⟨nk, .inl n0, [], upd_same, .nil⟩
        · exact S2.m x hx
      · rw [List.map_cons]
        refine List.nodup_cons.mpr ⟨fun hm => ?_, S1.nd⟩
        obtain ⟨x, hx, e⟩ := List.mem_map.mp hm
        exact nm x hx e
    · rintro i x H H' hi ⟨k, acc, m, b, S2, e2, j2⟩ y
      obtain ⟨k', g', r'⟩ := w.yields i H x H' ds[i] (by simp [hi]) y k e2 ⟨S2.kh, _, _, k, S2, Same.refl _⟩
      have S3 := (S2.grow g').wipe vs
      have q := js i ds[i] acc m b L (by simp [hi]) j2 (L2.wipe σ vs) k' H' x S3 r' _ (fun σ4 k4 h4 ς4 S4 e4 q4 => q4 σ4 k4 h4 S4 (fun b H3 => if b = true then te σ4 H3 fun y H4 => ∃ ac, H4 L = some (.lst ac) ∧ ac.length < sizeLine ∧ (∃ k acc m b, SR c { ς1 with m := (L, .lst acc) :: m, b := b } σ k (upd H4 L (.lst (ac ++ [y])))  ∧ Same k1 k ∧ Jv (i + 1) acc m b) else ∃ k acc m b, SR c { ς1 with m := (L, .lst acc) :: m, b := b } σ k H3 ∧ Same k1 k ∧ Jv (i + 1) acc m b) ?_)
      · have q' := kg _ _ _ _ q
        have wi : L2.wipe (L2.wipe σ vs) vs = L2.wipe σ vs := wipe_idem
        rw [wi] at q'
        exact q'
      · intro bb k5 h5 ς5 S5 e5 ⟨qt, qf⟩
        have e15 : Same k1 k5 := (e2.trans g'.kk).trans (e4.trans e5)
        cases bb with
        | false =>
          obtain ⟨m6, em, j⟩ := qf rfl
          obtain ⟨δ5, m5, b5⟩ := ς5
          have em : m5 = _ := em
          subst em
          exact iteF ⟨k5, acc, m6, b5, lower S5 e15, e15, j⟩
        | true =>
          refine iteT (qt rfl σ4 k5 h5 S5 _ fun y k6 h6 d ς6 S6 e6 r6 ⟨l, m7, em, j⟩ => ?_)
          obtain ⟨δ6, m6, b6⟩ := ς6
          have em : m6 = _ := em
          subst em
          have S7 := lower S6 (e15.trans e6)
          obtain ⟨n1, n2, vs', hv, rv⟩ := S7.m (L, .lst acc) List.mem_cons_self
          have n1 : k6 L = none := n1
          have hv : h6 L = some (.lst vs') := hv
          have rv : RepL c.K k6 vs' acc := rv
          have nW : ∀ a o, c.R.W a ∨ IsExt o → h6 a = some o → a ≠ L := fun a o wa q e => by
            rcases wa with wa | wa
            · exact (S7.w a wa).2 (by rw [e]; exact n0)
            · rw [e, hv] at q
              cases q
              exact wa
          refine ⟨vs', hv, by rw [rv.length]; exact l, k6, acc ++ [d], m7, b6, ?_, e15.trans e6, j⟩
          have sk : Same k6 (upd h6 L (.lst (vs' ++ [y]))) := fun a o q => by
            have ne : a ≠ L := fun e => by rw [e, n1] at q; cases q
            rw [upd_ne ne]
            exact S7.kh _ _ q
          refine ⟨⟨S7.g.kk, sk, fun a o na q => ?_, fun a q => ?_, S7.g.dj, S7.g.kt⟩, c.R.st _ _ _ (fun a o wa q => by rw [upd_ne (nW a o wa q)]; exact q) S7.i, S7.w, S7.s, fun x hx => ?_, S7.nd, S7.len, S7.kb⟩
          · have ne : a ≠ L := fun e => by rw [e, n0] at q; cases q
            rw [upd_ne ne]
            exact S7.g.hh a o na q
          · by_cases e : a = L
            · rw [e, upd_same]; simp
            · rw [upd_ne e]; exact S7.g.hd a q
          · rcases List.mem_cons.mp hx with e | hx'
            · subst e
              exact ⟨n1, n2, vs' ++ [y], upd_same, rv.append (.cons r6 .nil)⟩
            · obtain ⟨a1, a2, a3⟩ := S7.m x (List.mem_cons_of_mem _ hx')
              have ne : x.1 ≠ L := fun e => (List.nodup_cons.mp (by have := S7.nd; rwa [List.map_cons] at this)).1 (List.mem_map.mpr ⟨x, hx', e⟩)
              refine ⟨a1, a2, ?_⟩
              obtain ⟨xo, xm⟩ := x
              cases xm with
              | lst ds =>
                obtain ⟨us, q, r⟩ := a3
                exact ⟨us, by rw [upd_ne ne]; exact q, r⟩
              | ins C dx ns ds =>
                obtain ⟨fs, q, n, r⟩ := a3
                exact ⟨fs, by rw [upd_ne ne]; exact q, n, r⟩
              | dct ks ds =>
                obtain ⟨kvs, q, n, r⟩ := a3
                exact ⟨kvs, by rw [upd_ne ne]; exact q, n, r⟩
    · rintro H ⟨k, acc, m, b, S2, e2, j2⟩
      obtain ⟨n1, n2, vs', hv, rv⟩ := S2.m (L, .lst acc) List.mem_cons_self
      have n1 : k L = none := n1
      have hv : H L = some (.lst vs') := hv
      have rv : RepL c.K k vs' acc := rv
      -- the list is known from now on
      have kk : Same k (upd k L (.lst vs')) := same_new n1
      have kh : Same (upd k L (.lst vs')) H := fun a o q => by
        by_cases e : a = L
        · rw [e, upd_same] at q
          rw [e, hv]
          exact q
        · rw [upd_ne e] at q
          exact S2.kh _ _ q
      refine z (.ref L) (upd k L (.lst vs')) H (.lst acc) { ς1 with m := m, b := b } ?_ ((e1.trans e2).trans kk) (.lst upd_same (rv.mono kk)) (jd acc m b j2)
      refine ⟨⟨S2.g.kk.trans kk, kh, S2.g.hh, S2.g.hd, fun a q n => ?_, fun a ps q => ?_⟩, S2.i, S2.w, fun i d q => ?_, fun x hx => ?_, (List.nodup_cons.mp (by have := S2.nd; rwa [List.map_cons] at this)).2, S2.len, S2.kb.trans kk⟩
      · have ne : a ≠ L := fun e => n (by rw [e]; exact n0)
        rw [upd_ne ne]
        exact S2.g.dj a q n
      · by_cases e : a = L
        · rw [e, upd_same] at q; cases q
        · rw [upd_ne e] at q; exact S2.g.kt a ps q
      · obtain ⟨v, a, r⟩ := S2.s i d q
        exact ⟨v, a, r.mono kk⟩
      · obtain ⟨a1, a2, a3⟩ := S2.m x (List.mem_cons_of_mem _ hx)
        exact ⟨by rw [upd_ne (fun e => (List.nodup_cons.mp (by have := S2.nd; rwa [List.map_cons] at this)).1 (List.mem_map.mpr ⟨x, hx, e⟩))]; exact a1, a2, a3.step kk fun _ _ q => q⟩
end
end DL
namespace DL
open PySem PySem.Spec PyProof.Rows L2 DX
section
variable {c : Cn} {ς : Sta} {Φ : D → Sta → Prop} {Ψ : Psi}
/-- xs.pop(i), i told by the walk -/
theorem we_popE {j : Nat} {o : Addr} {to te : TE} (hI : ∀ b h h', c.fr = false → c.R.I b h → c.R.I b h' := by first | exact (fun _ _ _ z => nomatch z) | exact (fun _ _ _ _ z => z))
    (h : WE c to ς fun x ς1 => x = .ref o ∧ (∃ ds, ς1.m[j]? = some (o, .lst ds)) ∧ WE c te ς1 fun e ς2 => ∃ (i : Nat) (d : D) (ds : List D), e = .int (i : Int) ∧ i < 2 ^ 63 ∧ ς2.m[j]? = some (o, .lst ds) ∧ ds[i]? = some d ∧ Φ d { ς2 with m := ς2.m.set j (o, .lst (ds.eraseIdx i)) }) :
    WE c (tBM c.K "list" rPopAt to (tCons te tNil)) ς Φ := fun σ k hh S Q z =>
  h σ k hh S _ fun v k1 h1 x ς1 S1 e1 r1 ⟨ed, ⟨ds0, ej0⟩, q⟩ => by
    subst ed
    cases r1
    obtain ⟨_, _, vs0, hv0, _⟩ := S1.at ej0
    refine ⟨.inl ⟨rfl, vs0, SqL.of hv0⟩, q σ k1 h1 S1 _ fun y k2 h2 e ς2 S2 e2 r2 ⟨i, d, ds, ee, l, ej, ed, q2⟩ => ?_⟩
    subst ee
    cases r2
    obtain ⟨a1, a2, vs, hv, rv⟩ := S2.at ej
    obtain ⟨u, hu, ru⟩ := rv.get ed
    have hi : i < vs.length := (List.getElem?_eq_some_iff.mp hu).1
    refine ⟨o, vs, (i : Int), i, u, rfl, rfl, hv, by omega, by omega, (ixN_seq (by unfold ixN; rw [if_pos (by omega), if_pos (by omega)]; simp)).1, hu, ?_⟩
    exact z u k2 _ d _ (S2.put (mo' := .lst (ds.eraseIdx i)) ej hI ⟨vs.eraseIdx i, upd_same, rv.eraseIdx i⟩) (e1.trans e2) ru q2
theorem rep_rng {K : PySem.W.Frag} {k : Hp} (lo : Int) : ∀ l : List Nat, RepL K k (l.map fun i : Nat => V.int (lo + (i : Int))) (l.map fun i : Nat => D.int (lo + (i : Int)))
  | [] => .nil
  | i :: l => .cons (.int _) (rep_rng lo l)
/-- list(range(n)) -/
theorem we_lstRg1 {te : TE} (h : WE c te ς fun d ς1 => ∃ n : Int, d = .int n ∧ 0 ≤ n ∧ n ≤ 1000000 ∧ Φ (.lst (rngD 0 n.toNat)) ς1) : WE c (tLstRg (tRg1 te)) ς Φ := fun σ k hh S Q z =>
  h σ k hh S _ fun v k1 h1 d ς1 S1 e1 r1 ⟨n, ed, n0, n1, q⟩ => by
    subst ed
    cases r1
    refine ⟨n, rfl, RgOk.of_le (by omega) (by omega) (by omega) (by omega), fun p np => ?_⟩
    have g : Grow No k1 h1 (upd k1 p (.lst (rgV 0 n))) (upd h1 p (.lst (rgV 0 n))) := Grow.new S1.kh np (by nofun)
    refine z (.ref p) _ _ _ ς1 (S1.grow g) (e1.trans g.kk) (.lst upd_same ?_) q
    have e : (n - 0).toNat = n.toNat := by omega
    unfold rgV rngD
    rw [e]
    exact rep_rng 0 _
end
end DL
namespace DK
open PySem PySem.Spec PyProof.Rows L2 DL
variable {X : Cx} {K : PySem.W.Frag} {o e : Expr} {es : List Expr} {to : TE} {t : TA} {name : Str} {apos cpos : Pos} {T id : String} {r : V → List V → Hp → VK → Prop}
theorem pe_bm (pa : PlainAttrs T) (slot : Slot T name id) (hty : typeOf (.builtin id) = pure (.type "method_descriptor")) (hm : MtR X id r) (ho : PE X o to) (ha : PA X (e :: es) t) (h : X.K = K := by rfl)
    (hbase : attributeBase o name X.env (eval o X.env) = eval o X.env := by rfl)
    (hfew : ((backTo cpos (starEach (e :: es) X.env)).all (fun x => !x.1) && (backToKw cpos (keywordEach [] X.env)).all (fun x => x.1.isSome)
      && decide ((e :: es).length + ([] : List Keyword).length + (if ([] : List Keyword).isEmpty then 0 else 1) < 30)) = true := by rfl)
    (hline : (apos.endLine == cpos.line) = true := by rfl) (hs : starEach (e :: es) X.env = (false, eval e X.env) :: starEach es X.env := by rfl) (hplain : (backTo cpos (starEach es X.env)).any (·.1) = false := by rfl) :
    PE X (.Call (.Attribute o name apos) (e :: es) [] cpos) (tBM K T r to t) := by subst h; exact L2.pe_bm pa slot hty hm ho ha hbase hfew hline hs hplain
end DK

set_option Elab.async false
set_option linter.all false
set_option maxRecDepth 100000
set_option maxHeartbeats 4000000
/-! a table of ints that stands at the top; texts and tuples repeated; one of a text's signs -/
namespace DL
open PySem PySem.Spec PyProof.Rows L2 DX
def deI (e : DictEntry) : Option (Int × Int × Int) := match e.key, e.val with
  | .int k _, .int v _ => some (e.hash, k, v)
  | _, _ => none
structure ItK (K : PySem.W.Frag) (a : Addr) (kvs : List (Int × Int)) : Prop where
  at_ : ∃ es n, K.lookup a = some ⟨.type "dict", none, .dict es n, #[]⟩ ∧ es.toList.map deI = kvs.map fun q => some (hashInt q.1, q.1, q.2)
  low : (a == sysModules) = false
def itB (K : PySem.W.Frag) (a : Addr) (kvs : List (Int × Int)) : Bool := match K.lookup a with
  | some ⟨.type c, none, .dict es _, sl⟩ => decide (c = "dict") && (sl.isEmpty && (!(a == sysModules) && decide (es.toList.map deI = kvs.map fun q => some (hashInt q.1, q.1, q.2))))
  | _ => false
theorem itB_ok {K : PySem.W.Frag} {a : Addr} {kvs : List (Int × Int)} (h : itB K a kvs = true) : ItK K a kvs := by
  unfold itB at h
  split at h
  · rename_i c es n sl lk
    simp only [Bool.and_eq_true, decide_eq_true_eq, Bool.not_eq_true'] at h
    obtain ⟨rfl, h2, h3, h4⟩ := h
    have h2 : sl = #[] := Array.isEmpty_iff.mp h2
    subst h2
    exact ⟨⟨es, n, lk, h4⟩, h3⟩
  · cases h
theorem pairs_deI {P : Program} {w : World} : ∀ {es : List DictEntry} {kvs : List (Int × Int)}, es.map deI = kvs.map (fun q => some (hashInt q.1, q.1, q.2)) →
    ∃ vs : List (Int × Value), Pairs (intKind P w) es vs ∧ vs.map (·.1) = kvs.map (·.1) ∧ (∀ e ∈ es, ∃ k, (intKind P w).is k e.key = true ∧ e.hash = (intKind P w).hash k) ∧ ∀ k v, kvs.lookup k = some v → ∃ t, valueAt vs k = some (.int v t)
  | [], [], _ => ⟨[], .nil, rfl, fun _ h => absurd h (by simp), fun _ _ h => by cases h⟩
  | [], _ :: _, h => by cases h
  | _ :: _, [], h => by cases h
  | e :: es, q :: kvs, h => by
    obtain ⟨hs, ky, vl⟩ := e
    injection h with h1 h2
    obtain ⟨vs, p1, p2, p3, p4⟩ := pairs_deI (P := P) (w := w) h2
    unfold deI at h1
    split at h1
    · rename_i k t v u e1 e2
      have e1 : ky = .int k t := e1
      have e2 : vl = .int v u := e2
      subst e1 e2
      have h1 := Option.some.inj h1
      obtain ⟨q1, q2⟩ := q
      have a1 : hs = hashInt q1 := congrArg Prod.fst h1
      have a2 : k = q1 := congrArg (fun z => z.2.1) h1
      have a3 : v = q2 := congrArg (fun z => z.2.2) h1
      subst a1 a2 a3
      refine ⟨(k, .int v u) :: vs, .cons (intKind_is P w k t) rfl p1, by rw [List.map_cons, List.map_cons, p2], fun e he => ?_, fun k' v' hl => ?_⟩
      · rcases List.mem_cons.mp he with rfl | he
        · exact ⟨k, intKind_is P w k t, rfl⟩
        · exact p3 e he
      · unfold valueAt
        rw [List.find?_cons]
        by_cases hk : k = k'
        · subst hk
          rw [List.lookup_cons_self] at hl
          cases hl
          simp only [decide_true]
          exact ⟨u, rfl⟩
        · simp only [decide_eq_false hk]
          rw [List.lookup_cons, beq_eq_false_iff_ne.mpr (Ne.symm hk)] at hl
          exact p4 k' v' hl
    · cases h1
theorem find_keys {vs : List (Int × Value)} {i : Int} : (valueAt vs i).isSome = (vs.map (·.1)).any fun k => decide (k = i) := by
  unfold valueAt
  induction vs with
  | nil => rfl
  | cons q vs ih =>
    rw [List.find?_cons, List.map_cons, List.any_cons, ← ih]
    by_cases h : q.1 = i
    · simp [h]
    · simp [h]
theorem ItK.dict {P : Program} {w : World} {K : PySem.W.Frag} {h : Heap} {a : Addr} {kvs : List (Int × Int)} (c : ItK K a kvs) (I : K.In h) (nd : (kvs.map (·.1)).Nodup) :
    ∃ vs, h.DictOf (intKind P w) a vs ∧ (∀ i, (valueAt vs i).isSome = (kvs.map (·.1)).any fun k => decide (k = i)) ∧ ∀ k v, kvs.lookup k = some v → ∃ t, valueAt vs k = some (.int v t) := by
  obtain ⟨es, n, lk, hm⟩ := c.at_
  obtain ⟨vs, p1, p2, p3, p4⟩ := pairs_deI (P := P) (w := w) hm
  refine ⟨vs, ⟨_, es, n, I _ _ lk, ⟨rfl, rfl, rfl⟩, rfl, fun e he => p3 e (Array.mem_toList_iff.mpr he), p1, by rw [p2]; exact nd⟩, fun i => ?_, p4⟩
  rw [find_keys, p2]
def rTabNin (kvs : List (Int × Int)) (a : Addr) : R2 := fun x y H Q => ∃ i, x = .int i ∧ y = .ref a ∧ Q (.bl (!((kvs.map (·.1)).any fun k => decide (k = i)))) H
def rTabIx (kvs : List (Int × Int)) (a : Addr) : R2 := fun x y H Q => ∃ i v, y = .int i ∧ x = .ref a ∧ kvs.lookup i = some v ∧ Q (.int v) H
theorem op_tabNin {X : Cx} {a : Addr} {kvs : List (Int × Int)} (c : ItK X.K a kvs) (nd : (kvs.map (·.1)).Nodup) : OpR X (compareOp .NotIn) (rTabNin kvs a) := by
  intro pins s σ H x y v u Q I rx ry h
  obtain ⟨i, rfl, rfl, q⟩ := h
  obtain ⟨t, rfl⟩ := rx
  cases ry
  obtain ⟨vs, dd, hv, _⟩ := c.dict (P := X.prog) (w := X.w) I.kIn nd
  refine wpAny_notIn_of (PySem.intKind_is X.prog X.w i t) c.low dd.mapOf ?_
  rw [hv]
  exact ⟨.bl _, H, I.tok _, rfl, q⟩
theorem op_tabIx {X : Cx} {a : Addr} {kvs : List (Int × Int)} (c : ItK X.K a kvs) (nd : (kvs.map (·.1)).Nodup) : IxR X (rTabIx kvs a) := by
  intro value slice pins s σ H x y v u Q I rx ry h hs
  obtain ⟨i, r, rfl, rfl, e, q⟩ := h
  cases rx
  obtain ⟨t, rfl⟩ := ry
  obtain ⟨vs, dd, _, hv⟩ := c.dict (P := X.prog) (w := X.w) I.kIn nd
  obtain ⟨t', ev⟩ := hv i r e
  exact tail_any dd.mapOf.typeIs slot_dict_getitem.lookup (wpAny_getItem_of (PySem.intKind_is X.prog X.w i t) dd.mapOf ev ⟨.int r, H, I.tok _, ⟨t', rfl⟩, q⟩) hs
section
variable {K : PySem.W.Frag} {Φ : D → Prop}
theorem rd_tabNin {kvs : List (Int × Int)} {a : Addr} {i : Int} (q : Φ (.bl (!((kvs.map (·.1)).any fun k => decide (k = i))))) : RD K (rTabNin kvs a) (.int i) (.ref a) Φ := fun k h v1 v2 e r1 r2 Q z => by
  cases r1; cases r2
  exact ⟨i, rfl, rfl, z _ k h _ (Grow.refl e) (.bl _) q⟩
theorem rd_tabIx {kvs : List (Int × Int)} {a : Addr} {i v : Int} (hl : kvs.lookup i = some v) (q : Φ (.int v)) : RD K (rTabIx kvs a) (.ref a) (.int i) Φ := fun k h v1 v2 e r1 r2 Q z => by
  cases r1; cases r2
  exact ⟨i, v, rfl, rfl, hl, z _ k h _ (Grow.refl e) (.int _) q⟩
end
end DL
namespace DL
open PySem PySem.Spec PyProof.Rows L2 DX
def rMulS : R2 := fun x y H Q => ∃ z n, x = .str z ∧ y = .int n ∧ MulOk z n ∧ Q (.str (Txt.mul z n)) H
theorem op_mulS {X : Cx} : OpR X (binaryOp .Mult) rMulS := by
  intro pins s σ H x y v u Q I rx ry h
  obtain ⟨z, n, rfl, rfl, ok, q⟩ := h
  obtain ⟨t, rfl⟩ := rx
  obtain ⟨t2, rfl⟩ := ry
  exact SB.mul ok fun t' k => ⟨.str _, H, I.tok _, ⟨t', rfl⟩, q⟩
section
variable {K : PySem.W.Frag} {Φ : D → Prop}
theorem rd_mulS {z : Str} {n : Int} (ok : MulOk z n) (q : Φ (.str (Txt.mul z n))) : RD K rMulS (.str z) (.int n) Φ := fun k h v1 v2 e r1 r2 Q w => by
  cases r1; cases r2
  exact ⟨z, n, rfl, rfl, ok, w _ k h _ (Grow.refl e) (.str _) q⟩
theorem rd_repT {xs : List D} {n : Int} (ne : xs ≠ []) (l1 : 2 ≤ n) (l2 : n ≤ 1000) (l3 : xs.length ≤ 1000) (q : Φ (.tup (List.replicate n.toNat xs).flatten)) : RD K (rRepT K) (.tup xs) (.int n) Φ := fun k h v1 v2 e r1 r2 Q z => by
  cases r1 with
  | tup h1 r1 =>
    cases r2
    refine ⟨_, _, _, rfl, rfl, Same.sqt e h1, fun z => ne (List.length_eq_zero_iff.mp (by rw [← r1.length, z]; rfl)), l1, l2, by rw [r1.length]; exact l3, fun p n => ?_⟩
    have g : ∀ {o}, NT o → Grow No k h (upd k p o) (upd h p o) := fun t => Grow.new e n t
    exact z _ _ _ _ (g (by nofun)) (.tup (.inl (.inl upd_same)) ((r1.rep _).mono (g (by nofun)).kk)) q
end
end DL
namespace DK
open PySem PySem.Spec PyProof.Rows L2 DL
theorem op_repT {X : Cx} {K : PySem.W.Frag} (h : X.K = K := by rfl) : OpR X (binaryOp .Mult) (rRepT K) := by subst h; exact L2.op_repT
theorem op_tabNin {X : Cx} {K : PySem.W.Frag} {a : Addr} {kvs : List (Int × Int)} (c : ItK K a kvs) (nd : (kvs.map (·.1)).Nodup) (h : X.K = K := by rfl) : OpR X (compareOp .NotIn) (rTabNin kvs a) := by subst h; exact DL.op_tabNin c nd
theorem op_tabIx {X : Cx} {K : PySem.W.Frag} {a : Addr} {kvs : List (Int × Int)} (c : ItK K a kvs) (nd : (kvs.map (·.1)).Nodup) (h : X.K = K := by rfl) : IxR X (rTabIx kvs a) := by subst h; exact DL.op_tabIx c nd
end DK

set_option Elab.async false
set_option linter.all false
set_option maxRecDepth 100000
set_option maxHeartbeats 4000000
/-! lists of the caller's that stay through a lambda's call; C(..) with such a list amid its things, refused; a law with two tables -/
namespace DL
open PySem PySem.Spec PyProof.Rows L2 DX
/-- the list at o stays through the def's run -/
structure HRD (c : Cn) (o : Addr) (ds : List D) : Prop where
  at_ : ∃ vs, c.h0 o = some (.lst vs) ∧ RepL c.K c.k0 vs ds
  nw : ¬ c.R.W o
  kn : c.k0 o = none
theorem HRD.now {c : Cn} {o : Addr} {ds : List D} {ς : Sta} {σ : L2.St} {k h : Hp} (r : HRD c o ds) (S : SR c ς σ k h) : ∃ vs, h o = some (.lst vs) ∧ RepL c.K k vs ds ∧ k o = none := by
  obtain ⟨vs, a1, a2⟩ := r.at_
  exact ⟨vs, S.g.hh _ _ r.nw a1, a2.mono S.g.kk, S.g.dj o r.kn (by rw [a1]; simp)⟩
section
variable {c : Cn} {ς : Sta} {Φ : D → Sta → Prop} {Ψ : Psi}
theorem we_lamM {Tb : List (Addr × Str)} {t : XK → TE} {T : Addr → Addr → (XK → Hp → VK → Prop) → TS} {Ng : List Str} {q : Str} {Φb : D → Prop} {Xb : XD} (V : TabR c Tb)
    (hb : ∀ c3 : Cn, c3.K = c.K → c3.fr = true → (∀ o ds, (o, MO.lst ds) ∈ ς.m → HRD c3 o ds) → ∀ E, XOk c3 E (fun C ns fs ς1 => Xb C ns fs ∧ ς1 = { δ := ς.δ, b := ς.b }) → WE c3 (t E) { δ := ς.δ, b := ς.b } fun d ς1 => Φb d ∧ ς1 = { δ := ς.δ, b := ς.b })
    (hg : ∀ c3 : Cn, c3.K = c.K → c3.fr = true → ∀ f c' tl, (∀ b h, c3.R.I b h → h c' = some (LamX.CodeO c' q)) → TlOk c3 ς.b tl Φb Xb →
      WS c3 (T f c' tl) { δ := startD Ng [.ref f], b := ς.b } { nx := fun ς1 => Φ .non { ς with b := ς1.b }, rt := fun d ς1 => Φ d { ς with b := ς1.b } }) :
    WE c (LamX.tLam Tb (TTof q Ng T) t) ς Φ := fun σ k h S Q z => ⟨V.tabs _ _ S.i, fun H1 eN T1 f c' hc => by
  have kN : ∀ a ps, k a ≠ some (.tbl ps) := fun a ps q => V.k0 a ps (S.g.kt a ps q)
  have I1 : c.R.I ς.b H1 := V.ext _ _ _ S.i eN T1
  have kH1 : Same k H1 := fun a o q => eN a o (S.kh a o q) fun ps e => kN a ps (by rw [q, e])
  have S1 : SR c ς σ k H1 := by
    have hh : ∀ a o, ¬ c.R.W a → c.h0 a = some o → H1 a = some o := fun a o nw q => eN a o (S.g.hh a o nw q) fun ps e => nw (V.h0 a ps (by rw [q, e]))
    refine ⟨⟨S.g.kk, kH1, hh, fun a q => ?_, S.g.dj, S.g.kt⟩, I1, S.w, S.s, fun p hp => ?_, S.nd, S.len, S.kb⟩
    · by_cases wa : c.R.W a
      · exact V.there _ _ _ I1 wa
      · cases e : c.h0 a with
        | none => exact absurd e q
        | some o => rw [hh a o wa e]; simp
    · obtain ⟨a1, a2, a3⟩ := S.m p hp
      refine ⟨a1, a2, ?_⟩
      obtain ⟨o, mo⟩ := p
      cases mo with
      | lst ds => obtain ⟨vs, q, r⟩ := a3; exact ⟨vs, eN _ _ q (by nofun), r⟩
      | ins C dx ns ds => obtain ⟨fs, q, n, r⟩ := a3; exact ⟨fs, eN _ _ q (by nofun), n, r⟩
      | dct ks ds => obtain ⟨kvs, q, n, r⟩ := a3; exact ⟨kvs, eN _ _ q (by nofun), n, r⟩
  let R3 : Res := ⟨c.R.W, fun b h => c.R.I b h ∧ h c' = some (LamX.CodeO c' q), fun b h h' st ⟨x, y⟩ => ⟨c.R.st b h h' st x, st c' _ (.inr trivial) y⟩⟩
  let c3 : Cn := ⟨c.K, R3, k, H1, true, k⟩
  have W3 : ∀ a, c.R.W a → k a = none ∧ H1 a ≠ none := fun a wa => ⟨S.g.dj a (S.w a wa).1 (S.w a wa).2, V.there _ _ _ I1 wa⟩
  have S3 : SR c3 { δ := startD Ng [.ref f], b := ς.b } (L2.start Ng [.ref f]) k H1 :=
    ⟨Grow.refl kH1, ⟨I1, hc⟩, W3, fun i d q => start_rep (ds := [.ref f]) (.cons (.ref f) .nil) q, fun p hp => absurd hp (by simp), List.nodup_nil, start_len rfl, Same.refl _⟩
  have HQ : ∀ k2 o ds, (o, MO.lst ds) ∈ ς.m → HRD (c3.at k2) o ds := fun k2 o ds hp => by
    obtain ⟨a1, a2, vs, q, r⟩ := S1.m _ hp
    refine ⟨⟨vs, q, r⟩, fun wa => ?_, a1⟩
    rcases a2 with a2 | ⟨a2, _⟩
    · exact (S1.w o wa).2 a2
    · rw [V.fr] at a2
      cases a2
  have tl : TlOk c3 ς.b (fun E H' Q' => t E σ H' Q') Φb Xb := by
    intro σ2 k2 h2 ς2 S2 hm hβ E Q' q1 q2
    have back : ∀ {ς1 : Sta} {k' h' : Hp}, ς1.b = ς.b → SR (c3.at k2) ς1 σ k' h' → SR c3 ς2 σ2 k' h' := fun {ς1 k' h'} eb S' =>
      ⟨S'.g, by rw [hβ, ← eb]; exact S'.i, S'.w, fun i d q => by
        obtain ⟨v, a, r⟩ := S2.s i d q
        exact ⟨v, a, r.mono S'.kb⟩, fun p hp => by rw [hm] at hp; exact absurd hp (by simp), S2.nd, S2.len, S2.kb.trans S'.kb⟩
    have Sb : SR (c3.at k2) { δ := ς.δ, b := ς.b } σ k2 h2 := ⟨S2.g, by have := S2.i; rw [hβ] at this; exact this, S2.w, fun i d q => by
      obtain ⟨v, a, r⟩ := S.s i d q
      exact ⟨v, a, r.mono S2.g.kk⟩, fun p hp => absurd hp (by simp), List.nodup_nil, S.len, Same.refl _⟩
    refine hb (c3.at k2) rfl rfl (HQ k2) E (fun C ns fs dd ws σ' k' h' ς' S' a r ⟨x, e⟩ => ?_) σ k2 h2 Sb Q' fun v k' h' d ς1 S' e r ⟨x, eς⟩ => ?_
    · subst e
      refine q2 C ns fs dd ws k' h' ⟨S'.g, by rw [hβ]; exact S'.i, S'.w, fun i d q => ?_, fun p hp => ?_, S2.nd, S2.len, S2.kb.trans S'.kb⟩ S'.kb a r x
      · obtain ⟨v, a, r⟩ := S2.s i d q
        exact ⟨v, a, r.mono S'.kb⟩
      · rw [hm] at hp
        exact absurd hp (by simp)
    · subst eς
      exact q1 v k' h' d (back (ς1 := { δ := ς.δ, b := ς.b }) rfl S') e r x
  have fin : ∀ {ς' : Sta} {σ' : L2.St} {k' h' : Hp}, SR c3 ς' σ' k' h' → SR c { ς with b := ς'.b } σ k' h' := fun {ς' σ' k' h'} S' => S1.after S'.g S'.i.1 V.fr
  exact hg c3 rfl rfl f c' _ (fun b h x => x.2) tl (L2.start Ng [.ref f]) k H1 S3 _ ⟨fun σ' k' h' ς' S' e x => z .non k' h' .non _ (fin S') e .non x, fun _ _ _ _ _ _ x => x.elim, fun _ _ _ _ _ _ x => x.elim, fun v σ' k' h' d ς' S' e r x => z v k' h' d _ (fin S') e r x⟩⟩

theorem repL_swap {K : PySem.W.Frag} {k kq : Hp} {q : Addr} {dq L2' : List D} (e : Same k kq) (r : Rep K kq (.ref q) (.lst dq)) : ∀ {L1 : List D} {vs : List V}, RepL K k vs (L1 ++ [.ref q] ++ L2') → RepL K kq vs (L1 ++ [.lst dq] ++ L2')
  | [], _, .cons (.ref _) t => .cons r (t.mono e)
  | _ :: L1, _, .cons h t => .cons (h.mono e) (repL_swap e r t)
theorem repL_ints {K : PySem.W.Frag} {k k' : Hp} : ∀ {xs : List Int} {vs : List V}, RepL K k vs (xs.map D.int) → RepL K k' vs (xs.map D.int)
  | [], _, .nil => .nil
  | _ :: _, _, .cons (.int i) t => .cons (.int i) (repL_ints t)
/-- C(d0, a list with such a list in it, d2) is refused -/
theorem we_makeX {C q : Addr} {g : List D → Option OutI} {E : XK} {ta : TA} {X : XT} {dq : List D} {C' : Addr} {ns : List Str} {xs : List Int} (hE : XOk c E X) (hq : HRD c q dq)
    (h : WL c ta ς fun ds ς1 => ∃ L1 L2' d0 d2, ds = [d0, .lst (L1 ++ [.ref q] ++ L2'), d2] ∧ g [d0, .lst (L1 ++ [.lst dq] ++ L2'), d2] = some (.exc C' ns (xs.map D.int)) ∧ X C' ns (xs.map D.int) ς1) :
    WE c (tMake C (SpI c.K 4 C (spcI g)) [] E ta) ς Φ := fun σ k hh S Q z =>
  h σ k hh S _ fun vs k1 h1 ds ς1 S1 e1 r1 ⟨L1, L2', d0, d2, ed, hg, hX⟩ x dx nx ndx nex => by
    subst ed
    rw [List.append_nil]
    obtain ⟨vq, hq1, rq, kq0⟩ := hq.now S1
    have kx : k1 x = none := S1.kh.free nx
    have qx : q ≠ x := fun e => by rw [e, nx] at hq1; cases hq1
    have qdx : q ≠ dx := fun e => by rw [e, ndx] at hq1; cases hq1
    have eq1 : Same k1 (upd k1 q (.lst vq)) := same_new kq0
    have eq2 : Same (upd k1 q (.lst vq)) h1 := fun a o qq => by
      by_cases ea : a = q
      · rw [ea, upd_same] at qq
        rw [ea, hq1]
        exact qq
      · rw [upd_ne ea] at qq
        exact S1.kh _ _ qq
    have rR : Rep c.K (upd k1 q (.lst vq)) (.ref q) (.lst dq) := .lst upd_same (rq.mono eq1)
    have s1 : Same (upd k1 q (.lst vq)) (upd (upd h1 dx (.own x)) x (.ins C dx [])) := eq2.trans ((same_new ndx).trans (same_new (by rw [upd_ne (fun e => nex e.symm)]; exact nx)))
    have kqx : (upd k1 q (.lst vq)) x = none := by rw [upd_ne (fun e => qx e.symm)]; exact kx
    have rr : RepL c.K (upd k1 q (.lst vq)) vs [d0, .lst (L1 ++ [.lst dq] ++ L2'), d2] := by
      cases r1 with
      | cons ra r1 => cases r1 with
        | cons rb r1 => cases r1 with
          | cons rc r1 =>
            cases r1
            cases rb with
            | lst hb rb => exact .cons (ra.mono eq1) (.cons (.lst (eq1 _ _ hb) (repL_swap eq1 rR rb)) (.cons (rc.mono eq1) .nil))
    have lv : vs.length = 3 := rr.length
    refine ⟨by rw [List.length_cons, lv], x, dx, vs, upd k1 q (.lst vq), _, rfl, upd_same, kqx, rr, s1, ⟨_, hg⟩, fun ns fs hp => ?_, fun C2 ns2 fs2 hx dd ws k' h' g2 _ e r => ?_⟩
    · have e := hg.symm.trans hp
      cases e
    · have e' := hg.symm.trans hx
      cases e'
      have g3 := made_back (C := C) (k1 := upd k1 q (.lst vq)) nx ndx g2
      have hk' : k' q = some (.lst vq) := g3.kk _ _ upd_same
      have kk2 : Same k1 (fun a => if a = q then none else k' a) := fun a o qq => by
        have ea : a ≠ q := fun e => by rw [e, kq0] at qq; cases qq
        show (if a = q then none else k' a) = some o
        rw [if_neg ea]
        exact g3.kk _ _ (by rw [upd_ne ea]; exact qq)
      have g4 : Grow No k1 h1 (fun a => if a = q then none else k' a) h' := by
        refine ⟨kk2, fun a o qq => ?_, g3.hh, g3.hd, fun a qq n => ?_, fun a ps qq => ?_⟩
        · have qq : (if a = q then none else k' a) = some o := qq
          split at qq
          · cases qq
          · exact g3.kh _ _ qq
        · show (if a = q then none else k' a) = none
          split
          · rfl
          · rename_i ea
            exact g3.dj a (by rw [upd_ne ea]; exact qq) n
        · have qq : (if a = q then none else k' a) = some (.tbl ps) := qq
          split at qq
          · cases qq
          · rename_i ea
            have z := g3.kt a ps qq
            rw [upd_ne ea] at z
            exact z
      refine hE C' ns (xs.map D.int) dd ws σ (fun a => if a = q then none else k' a) h' ς1 (S1.grow g4) ?_ (repL_ints r) hX
      unfold XAt at e ⊢
      cases ns with
      | nil => exact e
      | cons f ns =>
        obtain ⟨d, ed, ek⟩ := e
        refine ⟨d, ed, ?_⟩
        have dq' : d ≠ q := fun z => by rw [z, hk'] at ek; cases ek
        show (if d = q then none else k' d) = _
        rw [if_neg dq']
        exact ek
end
end DL
namespace DL
open PySem PySem.Spec PyProof.Rows L2 DX
/-! ### a law with two tables of code objects -/
abbrev lawC2 (K : PySem.W.Frag) (s l t1 t2 : Addr) (q1 q2 : Str) (h : Hp) : Cn := ⟨K, strmT s l [(t1, q1), (t2, q2)], fun _ => none, fun z => if z = s ∨ z = l ∨ z = t1 ∨ z = t2 then h z else none, true, fun _ => none⟩
theorem lawC2_tab {K : PySem.W.Frag} {s l t1 t2 : Addr} {q1 q2 : Str} {h : Hp} : TabR (lawC2 K s l t1 t2 q1 q2 h) [(t1, q1), (t2, q2)] := by
  refine strmT_tab rfl rfl (fun a ps z => by cases z) fun a ps z => ?_
  have z : (if a = s ∨ a = l ∨ a = t1 ∨ a = t2 then h a else none) = some (.tbl ps) := z
  split at z
  · rename_i hc
    rcases hc with e | e | e | e
    · exact .inl e
    · exact .inr (.inl e)
    · exact .inr (.inr ⟨q1, by rw [e]; exact List.mem_cons_self⟩)
    · exact .inr (.inr ⟨q2, by rw [e]; exact List.mem_cons_of_mem _ List.mem_cons_self⟩)
  · cases z
theorem lawC2_h0 {K : PySem.W.Frag} {s l t1 t2 : Addr} {q1 q2 : Str} {h : Hp} (z : Addr) (hz : (lawC2 K s l t1 t2 q1 q2 h).h0 z ≠ none) : (lawC2 K s l t1 t2 q1 q2 h).R.W z := by
  have hz : (if z = s ∨ z = l ∨ z = t1 ∨ z = t2 then h z else none) ≠ none := hz
  split at hz
  · rename_i hc
    rcases hc with e | e | e | e
    · exact .inl e
    · exact .inr (.inl e)
    · exact .inr (.inr ⟨q1, by rw [e]; exact List.mem_cons_self⟩)
    · exact .inr (.inr ⟨q2, by rw [e]; exact List.mem_cons_of_mem _ List.mem_cons_self⟩)
  · exact absurd rfl hz
theorem law_sr2 {K : PySem.W.Frag} {H : Hp} {l s t1 t2 : Addr} {q1 q2 : Str} {ns : List Int} {σ : L2.St} {δ : List (Option D)} (hl : H l = none) (hs : H s = none) (hne : l ≠ s) (ht1 : H t1 = some (.tbl #[])) (ht2 : H t2 = some (.tbl #[])) (hσ : ∀ (i : Nat) (d : D), δ[i]? = some (some d) → d = .ref s ∧ σ[i]? = some (some (V.ref s))) (hlen : δ.length = σ.length) :
    SR (lawC2 K s l t1 t2 q1 q2 (upd (upd H l (.lst (ns.map V.int))) s (.lst [.ref l, .int 0, .int 0, .int 11]))) { δ := δ, b := 0 } σ (fun _ => none) (upd (upd H l (.lst (ns.map V.int))) s (.lst [.ref l, .int 0, .int 0, .int 11])) := by
  have tl : ∀ {t : Addr}, H t = some (.tbl #[]) → t ≠ l := fun h e => by rw [e, hl] at h; cases h
  have ts : ∀ {t : Addr}, H t = some (.tbl #[]) → t ≠ s := fun h e => by rw [e, hs] at h; cases h
  have e1 : upd (upd H l (.lst (ns.map V.int))) s (.lst [.ref l, .int 0, .int 0, .int 11]) s = some (.lst [.ref l, .int 0, .int 0, .int 11]) := upd_same
  have e2 : upd (upd H l (.lst (ns.map V.int))) s (.lst [.ref l, .int 0, .int 0, .int 11]) l = some (.lst (ns.map V.int)) := by rw [upd_ne hne, upd_same]
  have e3 : ∀ {t : Addr}, H t = some (.tbl #[]) → upd (upd H l (.lst (ns.map V.int))) s (.lst [.ref l, .int 0, .int 0, .int 11]) t = some (.tbl #[]) := fun h => by rw [upd_ne (ts h), upd_ne (tl h)]; exact h
  refine ⟨⟨Same.refl _, fun _ _ z => (nomatch z), fun z o _ hz => ?_, fun z hz => ?_, fun _ z _ => z, fun _ _ z => (nomatch z)⟩, ⟨⟨hne.symm, ns, 0, 0, 11, e1, e2, by omega, by simp, by omega, by omega⟩, fun p hp => ?_⟩, fun z hz => ⟨rfl, ?_⟩, fun i d hi => ?_, fun p hp => absurd hp (by simp), List.nodup_nil, hlen, fun _ _ z => (nomatch z)⟩
  · have hz : (if z = s ∨ z = l ∨ z = t1 ∨ z = t2 then _ else none) = some o := hz
    split at hz
    · exact hz
    · cases hz
  · have hz : (if z = s ∨ z = l ∨ z = t1 ∨ z = t2 then _ else none) ≠ none := hz
    split at hz
    · exact hz
    · exact absurd rfl hz
  · simp only [List.mem_cons, List.not_mem_nil, or_false] at hp
    rcases hp with rfl | rfl
    · exact LamX.TabS.nil (e3 ht1)
    · exact LamX.TabS.nil (e3 ht2)
  · show (if z = s ∨ z = l ∨ z = t1 ∨ z = t2 then _ else none) ≠ none
    rcases hz with e | e | ⟨q', hq⟩
    · rw [if_pos (.inl e), e, e1]; simp
    · rw [if_pos (.inr (.inl e)), e, e2]; simp
    · simp only [List.mem_cons, List.not_mem_nil, or_false, Prod.mk.injEq] at hq
      rcases hq with ⟨e, _⟩ | ⟨e, _⟩
      · rw [if_pos (.inr (.inr (.inl e))), e, e3 ht1]; simp
      · rw [if_pos (.inr (.inr (.inr e))), e, e3 ht2]; simp
  · obtain ⟨rfl, h2⟩ := hσ i d hi
    exact ⟨_, h2, .ref s⟩
end DL

set_option Elab.async false
set_option linter.all false
set_option maxRecDepth 100000
set_option maxHeartbeats 4000000
/-! len(o) by an own def; one of a text's or a list's things -/
namespace DL
open PySem PySem.Spec PyProof.Rows L2 DX
def rLenI (C : Addr) (sp : Sp) (E : XK) : List V → Hp → VK → Prop := fun xs H Q => ∃ a dx fs, xs = [.ref a] ∧ H a = some (.ins C dx fs) ∧ sp [.ref a] H (fun z H' => ∃ i, z = .int i ∧ 0 ≤ i ∧ i < 2 ^ 63 ∧ Q (.int i) H') E
theorem call_lenI {X : Cx} {C : Addr} {k j : Nat} {sp : Sp} {E : XK} (c : MetX X.prog X.w X.K X.mg X.base k C "__len__" sp) (hr : Room j X.A) (hk : k + 1 ≤ j) (hx : Passes (L2.CX X.prog X.w) X E) : CallR X (.builtin "len") (rLenI C sp E) := by
  intro pins s σ H xs us Q I r h
  obtain ⟨f, fd, ps, cl, hm, F, hb⟩ := c.ex
  obtain ⟨a, dx, fs, rfl, ha, q⟩ := h
  obtain ⟨u, rfl, ru⟩ := r.one
  cases (show u = Value.ref a from ru)
  obtain ⟨mA, O, _⟩ := ins_get I.hok ha
  obtain ⟨od, J, _⟩ := O.look
  obtain ⟨m, hF⟩ := I.fr
  have F2 := F.raw hb (ds := []) (dvs := []) .nil
  have hr2 : Room k X.A.in1 := (show Room (k + 1) X.A from hr.mono hk).in1
  refine PySem.W.len_K hF I.ok.mod.kin J hm.at_ hm.fn (wpAny_mono (wpAny_call (SlX.run_at (us := [.ref a]) (ws := [.ref a]) F2 hr2 I.env0.in1 hx I (.cons rfl .nil) q)) (fun w s' z => ?_) fun _ _ x => x)
  obtain ⟨z', H', I', rz, i, ei, i0, i1, qz⟩ := z
  subst ei
  obtain ⟨t, e⟩ := (show ∃ t, w = Value.int i t from rz)
  cases e
  exact ⟨⟨i0, i1⟩, .int i, H', I'.tok _, ⟨_, rfl⟩, qz⟩
theorem rc_lenO {K : PySem.W.Frag} {C : Addr} {ns : List Str} {fs : List D} {g : List D → Option Out} {E : XK} {i : Int} {Φ : D → Prop} (hg : g [.obj C ns fs] = some (.ret (.int i))) (i0 : 0 ≤ i) (i1 : i < 2 ^ 63) (q : Φ (.int i)) : RC K (rLenI C (SpS K 1 (spcF g)) E) [.obj C ns fs] Φ := fun k h vs e r Q z => by
  have rr := r
  cases r with
  | cons r1 r2 =>
    cases r2
    cases r1 with
    | obj ek en er =>
      refine ⟨_, _, _, rfl, e _ _ ek, rfl, Res.none, k, _, 0, rr, e, trivial, fun a z => z.elim, ⟨_, hg⟩, fun d b q' v k' h' g' _ r => ?_, fun C ns fs b q' dd ws k' h' g' _ e r => ?_⟩
      · have e := hg.symm.trans q'.1
        cases e
        cases r
        exact ⟨i, rfl, i0, i1, z _ _ _ _ g' (.int i) q⟩
      · have e := hg.symm.trans q'.1
        cases e
/-- the things of a list, the signs of a text -/
def itemsP : D → Option (List D)
  | .lst l => some l
  | .str z => some (z.cps.toList.map fun c => .str ⟨#[c]⟩)
  | _ => none
abbrev pickX : Spc := drawSpc (fun as b => ∃ x l, as = [x] ∧ itemsP x = some l ∧ 0 < l.length ∧ l.length ≤ 1000000 ∧ b ≤ 1000000000000) (fun as b d b' => ∃ x l, as = [x] ∧ itemsP x = some l ∧ d ∈ l ∧ b' = b + 1)
section
variable {c : Cn} {ς : Sta} {Φ : D → Sta → Prop} {s l : Addr} {E : XK}
theorem we_pickX {j : Nat} {te : TE} (V : SubR c (strm s l)) (h0 : ς.δ[j]? = some (some (.ref s))) (h : WE c te ς fun d ς1 => ∃ ll, itemsP d = some ll ∧ 0 < ll.length ∧ ll.length ≤ 1000000 ∧ ς1.b ≤ 1000000000000 ∧ ∀ x ∈ ll, Φ x { ς1 with b := ς1.b + 1 }) :
    WE c (tCall (SpS c.K 2 pickX) [] E (tCons (tVar j) (tCons te tNil))) ς Φ := by
  refine we_callR V (X := fun _ _ _ _ => False) xok0 (wl_cons (we_var h0 (wl_cons fun σ k hh S Q z => h σ k hh S Q fun v k' h' d ς' S' e r ⟨ll, ed, h1, h2, h3, h4⟩ => z v k' h' d ς' S' e r (wl_nil ⟨rfl, ⟨s, l, _, rfl, rfl, d, ll, rfl, ed, h1, h2, h3⟩, ?_, fun _ _ _ _ z => z⟩))))
  rintro d' b ⟨a, as, e, x, ll', e2, e3, x1, rfl⟩
  cases e
  cases e2
  have e4 := ed.symm.trans e3
  cases e4
  exact h4 d' x1
end
end DL
namespace DK
open PySem PySem.Spec PyProof.Rows L2 DL
/-- len(o), told where o is an instance -/
theorem lenI {X : Cx} {P : Program} {w : World} {K : PySem.W.Frag} {mg : Str → Option Value} {base : Heap} {A : Around} {C : Addr} {k j : Nat} {sp : Sp} {E : XK} (c : MetX P w K mg base k C "__len__" sp) (hr : Room j A) (hk : k + 1 ≤ j) (hx : Passes (L2.CX X.prog X.w) X E) (o : Of X P w K mg base A := by exact ⟨rfl, rfl, rfl, rfl, rfl, rfl⟩) : CallR X (.builtin "len") (rLenI C sp E) := by
  obtain ⟨h1, h2, h3, h4, h5, h6⟩ := o
  subst h1 h2 h3 h4 h5 h6
  exact call_lenI c hr hk hx
end DK

set_option Elab.async false
set_option linter.all false
set_option maxRecDepth 100000
set_option maxHeartbeats 4000000
/-! a + b of two lists, a new list to be written -/
namespace DL
open PySem PySem.Spec PyProof.Rows L2 DX
section
variable {c : Cn} {ς : Sta} {Φ : D → Sta → Prop} {Ψ : Psi}
theorem we_addM {ta tb : TE} (h : WE c ta ς fun d1 ς1 => WE c tb ς1 fun d2 ς2 => ∃ xs ys, d1 = .lst xs ∧ d2 = .lst ys ∧ xs.length + ys.length ≤ sizeLine ∧ ∀ p, (∀ x ∈ ς2.m, x.1 ≠ p) → Φ (.ref p) { ς2 with m := (p, .lst (xs ++ ys)) :: ς2.m }) :
    WE c (tOp (rAddK c.K) ta tb) ς Φ := fun σ k hh S Q z =>
  h σ k hh S _ fun v1 k1 h1 d1 ς1 S1 e1 r1 q1 => q1 σ k1 h1 S1 _ fun v2 k2 h2 d2 ς2 S2 e2 r2 ⟨xs, ys, ed1, ed2, l, q⟩ => by
    subst ed1
    subst ed2
    cases r1 with
    | lst ek er =>
      cases r2 with
      | lst ek2 er2 =>
        refine .inr (.inr (.inl ⟨_, _, _, _, rfl, rfl, S2.kh _ _ (e2 _ _ ek), S2.kh _ _ ek2, by rw [er.length, er2.length]; exact l, fun p np => ?_⟩))
        obtain ⟨S3, nm⟩ := S2.newM np ((er.mono e2).append er2)
        exact z (.ref p) k2 _ _ _ S3 (e1.trans e2) (.ref p) (q p nm)
/-- what is not looked at any more behind a statement -/
theorem ws_end {j : Nat} {t : TS} (h : WS c t ς { Ψ with nx := fun ς1 => Ψ.nx { ς1 with m := ς1.m.eraseIdx j } }) : WS c t ς Ψ := fun σ k hh S E z =>
  h σ k hh S E ⟨fun σ' k' h' ς' S' e p => z.nx σ' k' h' { ς' with m := ς'.m.eraseIdx j } ⟨S'.g, S'.i, S'.w, S'.s, fun p hp => S'.m p (List.mem_of_mem_eraseIdx hp), by
    show ((ς'.m.eraseIdx j).map (·.1)).Nodup
    exact S'.nd.sublist ((List.eraseIdx_sublist ς'.m j).map _), S'.len, S'.kb⟩ e p, z.bk, z.ct, z.rt⟩
end
end DL

set_option Elab.async false
set_option linter.all false
set_option maxRecDepth 100000
set_option maxHeartbeats 4000000
/-! a, b, c = x, y, z -/
namespace DL
open PySem PySem.Spec PyProof.Rows L2 DX
section
variable {c : Cn} {ς : Sta} {Φ : D → Sta → Prop} {Ψ : Psi}
theorem ws_par3 {i j l : Nat} {ta : TA} (h : WL c ta ς fun ds ς1 => ∃ d e f, ds = [d, e, f] ∧ i < ς1.δ.length ∧ j < ς1.δ.length ∧ l < ς1.δ.length ∧ Ψ.nx { ς1 with δ := ((ς1.δ.set i (some d)).set j (some e)).set l (some f) }) : WS c (tPar3 i j l ta) ς Ψ := fun σ k hh S E z =>
  h σ k hh S _ fun vs k1 h1 ds ς1 S1 e1 r1 ⟨d, e, f, ed, hi, hj, hl, q⟩ => by
    subst ed
    cases r1 with
    | cons ra r1 => cases r1 with
      | cons rb r1 => cases r1 with
        | cons rd r1 =>
          cases r1
          exact ⟨_, _, _, rfl, z.nx _ k1 h1 _ (((S1.set ra hi).set (i := j) rb (by show j < (ς1.δ.set i _).length; rw [List.length_set]; exact hj)).set (i := l) rd (by show l < ((ς1.δ.set i _).set j _).length; rw [List.length_set, List.length_set]; exact hl)) e1 q⟩
theorem parC {x y z : D} {i j l n : Nat} {P : D → D → D → Prop} (hi : Nat.blt i n = true) (hj : Nat.blt j n = true) (hl : Nat.blt l n = true) (q : P x y z) : ∃ d e f, [x, y, z] = [d, e, f] ∧ i < n ∧ j < n ∧ l < n ∧ P d e f := ⟨x, y, z, rfl, Nat.blt_eq.mp hi, Nat.blt_eq.mp hj, Nat.blt_eq.mp hl, q⟩
end
end DL

set_option Elab.async false
set_option linter.all false
set_option maxRecDepth 100000
set_option maxHeartbeats 4000000
/-! a law with any tables of code objects -/
namespace DL
open PySem PySem.Spec PyProof.Rows L2 DX
open Classical in
noncomputable abbrev lawCT (K : PySem.W.Frag) (s l : Addr) (Tb : List (Addr × Str)) (h : Hp) : Cn := ⟨K, strmT s l Tb, fun _ => none, fun z => if z = s ∨ z = l ∨ ∃ q, (z, q) ∈ Tb then h z else none, true, fun _ => none⟩
open Classical in
theorem lawCT_tab {K : PySem.W.Frag} {s l : Addr} {Tb : List (Addr × Str)} {h : Hp} : TabR (lawCT K s l Tb h) Tb := by
  refine strmT_tab rfl rfl (fun a ps z => by cases z) fun a ps z => ?_
  have z : (if a = s ∨ a = l ∨ ∃ q, (a, q) ∈ Tb then h a else none) = some (.tbl ps) := z
  split at z
  · rename_i hc
    exact hc
  · cases z
open Classical in
theorem lawCT_h0 {K : PySem.W.Frag} {s l : Addr} {Tb : List (Addr × Str)} {h : Hp} (z : Addr) (hz : (lawCT K s l Tb h).h0 z ≠ none) : (lawCT K s l Tb h).R.W z := by
  have hz : (if z = s ∨ z = l ∨ ∃ q, (z, q) ∈ Tb then h z else none) ≠ none := hz
  split at hz
  · rename_i hc
    exact hc
  · exact absurd rfl hz
open Classical in
theorem law_srT {K : PySem.W.Frag} {H : Hp} {l s : Addr} {Tb : List (Addr × Str)} {ns : List Int} {σ : L2.St} {δ : List (Option D)} (hl : H l = none) (hs : H s = none) (hne : l ≠ s) (hT : ∀ p ∈ Tb, H p.1 = some (.tbl #[])) (hσ : ∀ (i : Nat) (d : D), δ[i]? = some (some d) → d = .ref s ∧ σ[i]? = some (some (V.ref s))) (hlen : δ.length = σ.length) :
    SR (lawCT K s l Tb (upd (upd H l (.lst (ns.map V.int))) s (.lst [.ref l, .int 0, .int 0, .int 11]))) { δ := δ, b := 0 } σ (fun _ => none) (upd (upd H l (.lst (ns.map V.int))) s (.lst [.ref l, .int 0, .int 0, .int 11])) := by
  have tl : ∀ {t : Addr}, H t = some (.tbl #[]) → t ≠ l := fun h e => by rw [e, hl] at h; cases h
  have ts : ∀ {t : Addr}, H t = some (.tbl #[]) → t ≠ s := fun h e => by rw [e, hs] at h; cases h
  have e1 : upd (upd H l (.lst (ns.map V.int))) s (.lst [.ref l, .int 0, .int 0, .int 11]) s = some (.lst [.ref l, .int 0, .int 0, .int 11]) := upd_same
  have e2 : upd (upd H l (.lst (ns.map V.int))) s (.lst [.ref l, .int 0, .int 0, .int 11]) l = some (.lst (ns.map V.int)) := by rw [upd_ne hne, upd_same]
  have e3 : ∀ {t : Addr}, H t = some (.tbl #[]) → upd (upd H l (.lst (ns.map V.int))) s (.lst [.ref l, .int 0, .int 0, .int 11]) t = some (.tbl #[]) := fun h => by rw [upd_ne (ts h), upd_ne (tl h)]; exact h
  refine ⟨⟨Same.refl _, fun _ _ z => (nomatch z), fun z o _ hz => ?_, fun z hz => ?_, fun _ z _ => z, fun _ _ z => (nomatch z)⟩, ⟨⟨hne.symm, ns, 0, 0, 11, e1, e2, by omega, by simp, by omega, by omega⟩, fun p hp => ?_⟩, fun z hz => ⟨rfl, ?_⟩, fun i d hi => ?_, fun p hp => absurd hp (by simp), List.nodup_nil, hlen, fun _ _ z => (nomatch z)⟩
  · have hz : (if z = s ∨ z = l ∨ ∃ q, (z, q) ∈ Tb then _ else none) = some o := hz
    split at hz
    · exact hz
    · cases hz
  · have hz : (if z = s ∨ z = l ∨ ∃ q, (z, q) ∈ Tb then _ else none) ≠ none := hz
    split at hz
    · exact hz
    · exact absurd rfl hz
  · exact LamX.TabS.nil (e3 (hT p hp))
  · show (if z = s ∨ z = l ∨ ∃ q, (z, q) ∈ Tb then _ else none) ≠ none
    rcases hz with e | e | ⟨q', hq⟩
    · rw [if_pos (.inl e), e, e1]; simp
    · rw [if_pos (.inr (.inl e)), e, e2]; simp
    · rw [if_pos (.inr (.inr ⟨q', hq⟩)), e3 (hT _ hq)]; simp
  · obtain ⟨rfl, h2⟩ := hσ i d hi
    exact ⟨_, h2, .ref s⟩
end DL

set_option Elab.async false
set_option linter.all false
set_option maxRecDepth 100000
set_option maxHeartbeats 4000000
/-! a def that hands lambdas on, the stream no argument; min of two -/
namespace DL
open PySem PySem.Spec PyProof.Rows L2 DX
theorem rc_min2 {K : PySem.W.Frag} {Φ' : D → Prop} {i j : Int} (q : Φ' (.int (if j < i then j else i))) : RC K (fun xs H Q => ∃ i j, xs = [.int i, .int j] ∧ Q (.int (if j < i then j else i)) H) [.int i, .int j] Φ' := fun k h vs e r Q z => by
  cases r with
  | cons r1 r2 => cases r2 with
    | cons r2 r3 =>
      cases r1; cases r2; cases r3
      exact ⟨i, j, rfl, z _ k h _ (Grow.refl e) (.int _) q⟩
def SpTabN (K : PySem.W.Frag) (n : Nat) (Tb : List (Addr × Str)) (Pr : List D → Nat → Prop) (Po : List D → Nat → D → Nat → Prop) : Sp := fun vs H Q _ => vs.length = n ∧ ∃ (s l : Addr) (k : Hp) (as : List D) (b : Nat), RepL K k vs as ∧ Same k H ∧ (strmT s l Tb).I b H ∧ (∀ a, (strmT s l Tb).W a → k a = none ∧ H a ≠ none) ∧
  (∀ a ps, k a ≠ some (.tbl ps)) ∧ Pr as b ∧ ∀ d b', Po as b d b' → ∀ v k' h', Grow (strmT s l Tb).W k (resT s l Tb H) k' h' → (strmT s l Tb).I b' h' → Rep K k' v d → Q v h'
section
variable {P : Program} {w : World} {K : PySem.W.Frag} {mg : Str → Option Value} {base : Heap}
theorem tabN_run {N : List Str} {n : Nat} {Tb : List (Addr × Str)} {Pr : List D → Nat → Prop} {Po : List D → Nat → D → Nat → Prop} {t : TS} {vs : List V} {H : Hp} {Q : VK} {E : XK} (h : SpTabN K n Tb Pr Po vs H Q E)
    (hw : ∀ (s l : Addr) (k0 : Hp) (as : List D) (b : Nat), Pr as b → as.length = n → TabR (tabC K s l Tb k0 H) Tb → SubR (tabC K s l Tb k0 H) (strm s l) →
          WS (tabC K s l Tb k0 H) t { δ := startD N as, b := b } { nx := fun ς => Po as b .non ς.b, rt := fun d ς => Po as b d ς.b }) :
    t { nx := fun _ H' => Q .non H', rt := Q } (L2.start N vs) H := by
  obtain ⟨hl, s, l, k0, as, b, rl, e, hi, hW, hT, hp, hq⟩ := h
  have TR : TabR (tabC K s l Tb k0 H) Tb := strmT_tab rfl rfl hT fun a ps q => by
    have q : (open Classical in if (strmT s l Tb).W a then H a else none) = some (.tbl ps) := q
    split at q
    · assumption
    · cases q
  have S0 : SR (tabC K s l Tb k0 H) { δ := startD N as, b := b } (L2.start N vs) k0 H := by
    refine ⟨⟨Same.refl _, e, fun a o nw q => ?_, fun a q => ?_, fun _ q _ => q, fun _ _ q => q⟩, hi, fun a wa => ⟨(hW a wa).1, ?_⟩, fun i d q => start_rep rl q, fun p hp => absurd hp (by simp), List.nodup_nil, start_len rl.length, fun _ _ z => by cases z⟩
    · have q : (open Classical in if (strmT s l Tb).W a then H a else none) = some o := q
      rw [if_neg nw] at q
      cases q
    · have q : (open Classical in if (strmT s l Tb).W a then H a else none) ≠ none := q
      split at q
      · exact q
      · exact absurd rfl q
    · show (open Classical in if (strmT s l Tb).W a then H a else none) ≠ none
      rw [if_pos wa]
      exact (hW a wa).2
  refine hw s l k0 as b hp (by rw [← rl.length, hl]) TR (strmT_sub rfl rfl) (L2.start N vs) k0 H S0 _ ?_
  exact ⟨fun σ' k' h' ς' S' _ q => hq .non ς'.b q .non k' h' S'.g S'.i .non, fun _ _ _ _ _ _ q => q.elim, fun _ _ _ _ _ _ q => q.elim, fun v σ' k' h' d ς' S' _ r q => hq d ς'.b q v k' h' S'.g S'.i r⟩
end
section
variable {c : Cn} {ς : Sta} {Φ : D → Sta → Prop} {s l : Addr} {E : XK}
/-- such a def called, the caller's lists all known -/
theorem we_callTabN {n j : Nat} {Tb : List (Addr × Str)} {Pr : List D → Nat → Prop} {Po : List D → Nat → D → Nat → Prop} {ta : TA} (V : TabR c Tb) (hR : c.R = strmT s l Tb) (h0 : ∀ a, c.h0 a ≠ none → c.R.W a)
    (h : WL c ta ς fun ds ς1 => ∃ as, ds = as ∧ ds.length = n ∧ ς1.m = [] ∧ Pr as ς1.b ∧ ∀ d b, Po as ς1.b d b → Φ d { ς1 with b := b }) : WE c (tCall (SpTabN c.K n Tb Pr Po) [] E ta) ς Φ := fun σ k hh S Q z =>
  h σ k hh S _ fun vs k1 h1 ds ς1 S1 e1 r1 ⟨as, ed, el, em, p, q⟩ => by
    rw [List.append_nil]
    have i1 := S1.i
    rw [hR] at i1
    have w1 : ∀ a, (strmT s l Tb).W a → c.R.W a := fun a wa => by rw [hR]; exact wa
    have wW : ∀ a, (strmT s l Tb).W a → k1 a = none ∧ h1 a ≠ none := fun a wa => ⟨S1.g.dj a (S1.w a (w1 a wa)).1 (S1.w a (w1 a wa)).2, S1.g.hd a (S1.w a (w1 a wa)).2⟩
    refine ⟨by rw [r1.length, el], s, l, k1, as, ς1.b, by rw [← ed]; exact r1, S1.kh, i1, wW, fun a ps q => V.k0 a ps (S1.g.kt a ps q), p, fun d b' po v k' h' g i r => ?_⟩
    have i' : c.R.I b' h' := by rw [hR]; exact i
    refine z v k' h' d { ς1 with b := b' } ⟨⟨S1.g.kk.trans g.kk, g.kh, fun a o nw q => absurd (h0 a (by rw [q]; simp)) nw, fun a q => ?_, fun a q n => ?_, fun a ps q => S1.g.kt a ps (g.kt a ps q)⟩, i', S1.w, fun i d q => ?_, fun p hp => by
      have hp : p ∈ ς1.m := hp
      rw [em] at hp
      exact absurd hp (by simp), S1.nd, S1.len, S1.kb.trans g.kk⟩ (e1.trans g.kk) r (q d b' po)
    · have wa := h0 a q
      exact V.there _ _ _ i' wa
    · have wa := h0 a n
      have wa' : (strmT s l Tb).W a := by rw [← hR]; exact wa
      refine g.dj a (wW a wa').1 ?_
      show (open Classical in if (strmT s l Tb).W a then h1 a else none) ≠ none
      rw [if_pos wa']
      exact (wW a wa').2
    · obtain ⟨v, a, r⟩ := S1.s i d q
      exact ⟨v, a, r.mono g.kk⟩
end
end DL

set_option Elab.async false
set_option linter.all false
set_option maxRecDepth 100000
set_option maxHeartbeats 4000000
/-! two like things compared: ints, texts, None, truths, tuples and lists of such, empty dicts -/
namespace DL
open PySem PySem.Spec PyProof.Rows L2 DX
open PySem.W (EqTree)
open PySem.SeqAt (EqAt)
mutual
inductive TwT (K : PySem.W.Frag) (H : Hp) : Nat → V → V → Prop
  | non {n : Nat} : TwT K H n .non .non
  | bl {n : Nat} (b : Bool) : TwT K H n (.bl b) (.bl b)
  | int {n : Nat} (i : Int) : TwT K H n (.int i) (.int i)
  | str {n : Nat} (x : Str) : TwT K H n (.str x) (.str x)
  | lst {n : Nat} {a b : Addr} {xs ys : List V} : SqL K H a xs → SqL K H b ys → TwA K H n xs ys → TwT K H (n + 1) (.ref a) (.ref b)
  | tup {n : Nat} {a b : Addr} {xs ys : List V} : SqT K H a xs → SqT K H b ys → TwA K H n xs ys → TwT K H (n + 1) (.ref a) (.ref b)
  | dct {n : Nat} {a b : Addr} : H a = some (.dK []) → H b = some (.dK []) → TwT K H (n + 1) (.ref a) (.ref b)
inductive TwA (K : PySem.W.Frag) (H : Hp) : Nat → List V → List V → Prop
  | nil {n : Nat} : TwA K H n [] []
  | cons {n : Nat} {x y : V} {xs ys : List V} : TwT K H n x y → TwA K H n xs ys → TwA K H n (x :: xs) (y :: ys)
end
theorem TwA.len {K : PySem.W.Frag} {H : Hp} {n : Nat} : ∀ {xs ys : List V}, TwA K H n xs ys → xs.length = ys.length
  | _, _, .nil => rfl
  | _, _, .cons _ r => by rw [List.length_cons, List.length_cons, TwA.len r]
theorem all_rng (n : Nat) : ((List.range n).all fun _ => true) = true := by simp
theorem dk_empty {P : Program} {w : World} {H : Hp} {s : Heap} {a : Addr} (ok : ObjOk P w H s a (.dK [])) : (a == sysModules) = false ∧ ∀ (p : Program) (v : World), s.DictOf (intKind p v) a [] := by
  obtain ⟨_, ya, va, ra, da⟩ := ok
  have e : va = [] := by cases ra; rfl
  subst e
  obtain ⟨o, es, ep, h1, h2, h3, _, h5, _⟩ := da
  have ee : es.toList = [] := by
    generalize es.toList = l at h5
    cases h5
    rfl
  refine ⟨ya, fun p v => ⟨o, es, ep, h1, h2, h3, fun e he => ?_, ?_, List.nodup_nil⟩⟩
  · have he : e ∈ es.toList := Array.mem_toList_iff.mpr he
    rw [ee] at he
    exact absurd he (by simp)
  · rw [ee]
    exact .nil
section
variable {X : Cx} {pins : List (Addr × Obj)} {σ : L2.St} {H : Hp} {s : Shared}
mutual
theorem TwT.tree (I : Inv X pins σ H s) : ∀ {n : Nat} {x y : V} {u v : Value}, TwT X.K H n x y → RelV x u → RelV y v → ∀ (p : Program) (w : World), EqTree p w s n u v true
  | _, _, _, _, _, .non, r1, r2, p, w => by
    cases r1; cases r2
    exact .same
  | _, _, _, _, _, .bl b, r1, r2, p, w => by
    cases r1; cases r2
    exact .same
  | _, _, _, _, _, .int i, r1, r2, p, w => by
    obtain ⟨t, rfl⟩ := r1
    obtain ⟨t2, rfl⟩ := r2
    exact .leaf fun A _ => by simpa using SeqAt.EqAt.int_int (A := A) (s := s) i t i t2
  | _, _, _, _, _, .str x, r1, r2, p, w => by
    obtain ⟨t, rfl⟩ := r1
    obtain ⟨t2, rfl⟩ := r2
    exact .leaf fun A _ => by simpa using SeqAt.EqAt.str_str (A := A) (s := s) x t x t2
  | _, _, _, _, _, .lst (a := a) (b := b) h1 h2 ha, r1, r2, p, w => by
    cases r1; cases r2
    obtain ⟨its, rv, pl, _⟩ := I.list h1
    obtain ⟨its2, rv2, pl2, _⟩ := I.list h2
    by_cases e : a = b
    · subst e; exact .same
    have hs : its.toArray.size = its2.toArray.size := by
      rw [List.size_toArray, List.size_toArray, ← rv.length, ← rv2.length]
      exact ha.len
    have t := EqTree.lists (prog := p) (w := w) (e := fun _ => true) e (PlainL.isList pl) (PlainL.isList pl2) hs fun j q1 q2 => by
      have z := TwA.trees I ha rv rv2 p w j (by simpa using q1) (by simpa using q2)
      simpa using z
    rw [all_rng] at t
    exact t
  | _, _, _, _, _, .tup (a := a) (b := b) h1 h2 ha, r1, r2, p, w => by
    cases r1; cases r2
    obtain ⟨its, rv, pl, _⟩ := I.tuple h1
    obtain ⟨its2, rv2, pl2, _⟩ := I.tuple h2
    by_cases e : a = b
    · subst e; exact .same
    have hs : its.toArray.size = its2.toArray.size := by
      rw [List.size_toArray, List.size_toArray, ← rv.length, ← rv2.length]
      exact ha.len
    have t := EqTree.tuples (prog := p) (w := w) (e := fun _ => true) e pl pl2 fun j q1 q2 => by
      have z := TwA.trees I ha rv rv2 p w j (by simpa using q1) (by simpa using q2)
      simpa using z
    rw [all_rng, hs] at t
    simpa using t
  | _, _, _, _, _, .dct (a := a) (b := b) h1 h2, r1, r2, p, w => by
    cases r1; cases r2
    by_cases e : a = b
    · subst e; exact .same
    obtain ⟨y1, d1⟩ := dk_empty (I.hok a _ h1)
    obtain ⟨y2, d2⟩ := dk_empty (I.hok b _ h2)
    exact EqTree.dicts (prog := p) (w := w) (e := fun _ => true) e y1 y2 (d1 p w) (d2 p w) (fun k v y hm _ => absurd hm (by simp))
theorem TwA.trees (I : Inv X pins σ H s) : ∀ {n : Nat} {xs ys : List V} {us vs : List Value}, TwA X.K H n xs ys → Vals xs us → Vals ys vs → ∀ (p : Program) (w : World) (j : Nat) (h1 : j < us.length) (h2 : j < vs.length), EqTree p w s n us[j] vs[j] true
  | _, _, _, _, _, .nil, r1, r2, p, w, j, h1, h2 => by
    cases r1
    exact absurd h1 (by simp)
  | _, _, _, _, _, .cons t ts, r1, r2, p, w, j, h1, h2 => by
    cases r1 with
    | cons a1 b1 => cases r2 with
      | cons a2 b2 =>
        cases j with
        | zero => exact TwT.tree I t a1 a2 p w
        | succ j => exact TwA.trees I ts b1 b2 p w j (by simpa using h1) (by simpa using h2)
end
def rNeTw (K : PySem.W.Frag) : R2 := fun x y H Q => ∃ (a b : Addr) (xs ys : List V), x = .ref a ∧ y = .ref b ∧ SqL K H a xs ∧ SqL K H b ys ∧ TwA K H 8 xs ys ∧ Q (.bl false) H
theorem op_neTw (hu : X.A.units + 64 < cLine) : OpR X (compareOp .NotEq) (rNeTw X.K) := by
  intro pins s σ H x y v u Q I rx ry h
  obtain ⟨a, b, xs, ys, rfl, rfl, h1, h2, ha, q⟩ := h
  obtain rfl : v = Value.ref a := rx
  obtain rfl : u = Value.ref b := ry
  obtain ⟨its, rv, pl, _⟩ := I.list h1
  obtain ⟨its2, rv2, pl2, _⟩ := I.list h2
  have hs : its.toArray.size = its2.toArray.size := by
    rw [List.size_toArray, List.size_toArray, ← rv.length, ← rv2.length]
    exact ha.len
  have t := SeqAt.RcNeAt.lists (A := X.A) (e := fun _ => true) (PlainL.isList pl) (PlainL.isList pl2) hs (by omega) fun j q1 q2 => fun p w E Q hq => by
    have z := (TwA.trees I ha rv rv2 p w j (by simpa using q1) (by simpa using q2)).at X.A.in1 (by show X.A.units + 1 + 8 < cLine; omega)
    exact (by simpa using z : SeqAt.EqIn p w X.A.in1 s its.toArray[j] its2.toArray[j] true) E Q hq
  rw [all_rng] at t
  exact t X.prog X.w _ _ ⟨.bl _, H, I, rfl, q⟩
end
/-- data that such a comparison tells alike -/
def twD : Nat → D → Bool
  | _, .non => true
  | _, .bl _ => true
  | _, .int _ => true
  | _, .str _ => true
  | n + 1, .lst l => l.all (twD n)
  | n + 1, .tup l => l.all (twD n)
  | _ + 1, .dct [] [] => true
  | _, _ => false
theorem TwA.ofT {K : PySem.W.Frag} {k h : Hp} {n : Nat} (ih : ∀ {d : D} {x y : V}, Rep K k x d → Rep K k y d → twD n d = true → TwT K h n x y) : ∀ {l : List D} {xs ys : List V}, RepL K k xs l → RepL K k ys l → l.all (twD n) = true → TwA K h n xs ys
  | _, _, _, .nil, .nil, _ => .nil
  | _, _, _, .cons r1 q1, .cons r2 q2, hl => by
    rw [List.all_cons] at hl
    obtain ⟨h1, h2⟩ := Bool.and_eq_true_iff.mp hl
    exact .cons (ih r1 r2 h1) (TwA.ofT ih q1 q2 h2)
theorem TwT.of {K : PySem.W.Frag} {k h : Hp} (e : Same k h) : ∀ (n : Nat) {d : D} {x y : V}, Rep K k x d → Rep K k y d → twD n d = true → TwT K h n x y := by
  intro n
  induction n with
  | zero =>
    intro d x y r1 r2 hd
    cases d with
    | non => cases r1; cases r2; exact .non
    | bl b => cases r1; cases r2; exact .bl b
    | int i => cases r1; cases r2; exact .int i
    | str z => cases r1; cases r2; exact .str z
    | dct ks ds => cases ks <;> cases ds <;> cases hd
    | _ => cases hd
  | succ n ih =>
    intro d x y r1 r2 hd
    cases d with
    | non => cases r1; cases r2; exact .non
    | bl b => cases r1; cases r2; exact .bl b
    | int i => cases r1; cases r2; exact .int i
    | str z => cases r1; cases r2; exact .str z
    | lst l =>
      cases r1 with
      | lst h1 q1 => cases r2 with
        | lst h2 q2 => exact .lst (SqL.of (e _ _ h1)) (SqL.of (e _ _ h2)) (TwA.ofT (fun a b c => ih a b c) q1 q2 hd)
    | tup l =>
      cases r1 with
      | tup h1 q1 => cases r2 with
        | tup h2 q2 => exact .tup (Same.sqt e h1) (Same.sqt e h2) (TwA.ofT (fun a b c => ih a b c) q1 q2 hd)
    | dct ks ds =>
      cases ks with
      | cons _ _ => cases hd
      | nil => cases ds with
        | cons _ _ => cases hd
        | nil =>
          cases r1 with
          | dct h1 m1 _ => cases r2 with
            | dct h2 m2 _ =>
              cases List.map_eq_nil_iff.mp m1
              cases List.map_eq_nil_iff.mp m2
              exact .dct (e _ _ h1) (e _ _ h2)
    | _ => cases hd
theorem rd_neTw {K : PySem.W.Frag} {Φ : D → Prop} {l : List D} (hl : l.all (twD 8) = true) (q : Φ (.bl false)) : RD K (rNeTw K) (.lst l) (.lst l) Φ := fun k h v1 v2 e r1 r2 Q z => by
  cases r1 with
  | lst h1 q1 => cases r2 with
    | lst h2 q2 => exact ⟨_, _, _, _, rfl, rfl, SqL.of (e _ _ h1), SqL.of (e _ _ h2), TwA.ofT (fun a b c => TwT.of e 8 a b c) q1 q2 hl, z _ k h _ (Grow.refl e) (.bl _) q⟩
end DL
namespace DK
open PySem PySem.Spec PyProof.Rows L2 DL
theorem op_neTw {X : Cx} {K : PySem.W.Frag} (hu : X.A.units + 64 < cLine) (h : X.K = K := by rfl) : OpR X (compareOp .NotEq) (rNeTw K) := by subst h; exact DL.op_neTw hu
end DK

set_option Elab.async false
set_option linter.all false
set_option maxRecDepth 100000
set_option maxHeartbeats 4000000
/-! sorted: pairs of ints, ints; x not in rows of data -/
namespace DL
open PySem PySem.Spec PyProof.Rows L2 DX
/-- a pair of ints, as data -/
abbrev pD (q : Int × Int) : D := .tup [.int q.1, .int q.2]
/-- in order -/
abbrev OrdP (l : List (Int × Int)) : Prop := l.Pairwise fun x y => SrtO.lexB y x = false
/-- sorted(xs): xs and what its things stand for by R -/
def rSrtP (K : PySem.W.Frag) : List V → Hp → VK → Prop := fun vs H Q => ∃ (a : Addr) (xs : List V) (ps : List (Int × Int)) (R : V → Int × Int → Prop), vs = [V.ref a] ∧ SqL K H a xs ∧
  (∀ x q, R x q → ∃ t, x = V.ref t ∧ SqT K H t [.int q.1, .int q.2]) ∧ Paired R xs ps ∧
  ∀ (ys : List V) (qs : List (Int × Int)) (p : Addr), Paired R ys qs → qs.Perm ps → OrdP qs → H p = none → Q (.ref p) (upd H p (.lst ys))
theorem paired_map {α β : Type} {R : α → β → Prop} {f : α → β} : ∀ {xs : List α}, (∀ x ∈ xs, R x (f x)) → Paired R xs (xs.map f)
  | [], _ => .nil
  | x :: xs, h => .cons (h x List.mem_cons_self) (paired_map fun y hy => h y (List.mem_cons_of_mem _ hy))
theorem paired_eq {α β : Type} {R : α → β → Prop} {f : α → β} : ∀ {xs : List α} {ps : List β}, Paired R xs ps → (∀ x q, R x q → q = f x) → ps = xs.map f
  | _, _, .nil, _ => rfl
  | _, _, .cons h t, e => by rw [List.map_cons, e _ _ h, paired_eq t e]
theorem paired_left {α β : Type} {R : α → β → Prop} : ∀ {xs : List α} {ps : List β}, Paired R xs ps → ∀ x ∈ xs, ∃ q, R x q
  | _, _, .nil, _, h => absurd h (by simp)
  | _, _, .cons h t, x, hx => by
    rcases List.mem_cons.mp hx with rfl | hx
    · exact ⟨_, h⟩
    · exact paired_left t x hx
theorem cr_srtP {X : Cx} : CallR X (.builtin "sorted") (rSrtP X.K) := by
  intro pins s σ H vs us Q I r h
  obtain ⟨a, xs, ps, R, rfl, hs, hR, hp, q⟩ := h
  obtain ⟨its, rv, hl, hz⟩ := I.list hs
  obtain ⟨u, rfl, ru⟩ := vals1 r
  obtain rfl : u = Value.ref a := ru
  have hx := paired_left hp
  obtain ⟨k, hk⟩ : ∃ k : V → Int × Int, ∀ x q, R x q → R x (k x) ∧ q = k x := by
    refine ⟨fun v => @dite _ (∃ q, R v q) (Classical.propDecidable _) (fun h => Classical.choose h) fun _ => (0, 0), fun x q h => ?_⟩
    have e : ∃ q, R x q := ⟨q, h⟩
    dsimp only
    rw [dif_pos e]
    have c := Classical.choose_spec e
    refine ⟨c, ?_⟩
    obtain ⟨t, ex, h1⟩ := hR _ _ h
    obtain ⟨t', ex', h2⟩ := hR _ _ c
    rw [ex] at ex'
    cases ex'
    have z := I.tuple_inj h1 h2
    injection z with z1 z
    injection z with z2 _
    injection z1 with z1
    injection z2 with z2
    exact Prod.ext z1 z2
  have ek := paired_eq hp fun x q h => (hk x q h).2
  obtain ⟨e1, e2⟩ := refs_back rv fun x m => by
    obtain ⟨q, hq⟩ := hx x m
    obtain ⟨t, e, _⟩ := hR _ _ hq
    exact ⟨t, e⟩
  refine SrtO.sorted_pairsO (k := fun u => k (backV u)) hl.isList (by rw [← rv.length]; exact hz) (fun v hv => ?_) fun h' d out h1 h2 kp hd hn => ?_
  · obtain ⟨t, rfl⟩ := e2 v hv
    have hm : V.ref t ∈ xs := by rw [e1]; exact List.mem_map.mpr ⟨_, hv, rfl⟩
    obtain ⟨q0, hq0⟩ := hx _ hm
    obtain ⟨t', e, ht⟩ := hR _ _ (hk _ _ hq0).1
    cases e
    obtain ⟨its2, r2, ⟨o, ho, hc, n, hd⟩, _⟩ := I.tuple ht
    obtain ⟨u1, u2, rfl, ri, rj⟩ := vals2 r2
    obtain ⟨t1, rfl⟩ := ri
    obtain ⟨t2, rfl⟩ := rj
    exact ⟨t, o, t1, t2, n, rfl, ho, hc, hd⟩
  · have h3 : ∀ u ∈ out, ∃ a, u = Value.ref a := fun u hu => e2 u (h2.perm.mem_iff.mp hu)
    obtain ⟨n, hn⟩ := hn
    have hb : SrtO.Stb (ltP k) (out.map backV) xs := by
      rw [e1]
      exact SrtO.Stb.map (ltP_swo k) backV h2
    refine ⟨.ref d, upd H d (.lst (out.map backV)), I.laid (t' := s.toks) kp hd ⟨?_, out, n, vals_back h3, hn⟩, rfl, q _ ((out.map backV).map k) d ?_ ?_ ?_ (I.hok.fresh hd)⟩
    · rw [hb.len]
      exact hz
    · refine paired_map fun x hx' => ?_
      obtain ⟨q0, hq0⟩ := hx x (hb.perm.mem_iff.mp hx')
      exact (hk _ _ hq0).1
    · rw [ek]
      exact hb.perm.map k
    · exact List.pairwise_map.mpr (SrtO.srtd_map (f := backV) h1)
section
variable {K : PySem.W.Frag} {Φ : D → Prop}
theorem repL_paired {k : Hp} : ∀ {us : List V} {ps : List (Int × Int)}, RepL K k us (ps.map pD) → Paired (fun x q => Rep K k x (pD q)) us ps
  | [], [], .nil => .nil
  | _ :: _, _ :: _, .cons h t => .cons h (repL_paired t)
theorem paired_repL {k : Hp} : ∀ {us : List V} {ps : List (Int × Int)}, Paired (fun x q => Rep K k x (pD q)) us ps → RepL K k us (ps.map pD)
  | _, _, .nil => .nil
  | _, _, .cons h t => .cons h (paired_repL t)
theorem rc_srtP {ps : List (Int × Int)} (q : ∀ qs, qs.Perm ps → OrdP qs → Φ (.lst (qs.map pD))) : RC K (rSrtP K) [.lst (ps.map pD)] Φ := fun k h vs e r Q z => by
  cases r with
  | cons r1 r2 =>
    cases r2
    cases r1 with
    | lst ek er =>
      refine ⟨_, _, ps, fun x q => Rep K k x (pD q), rfl, SqL.of (e _ _ ek), fun x q hq => ?_, repL_paired er, fun ys qs p hp h1 h2 hn => ?_⟩
      · cases hq with
        | tup h1 h2 =>
          cases h2 with
          | cons a1 h2 => cases h2 with
            | cons a2 h2 =>
              cases h2
              cases a1
              cases a2
              exact ⟨_, rfl, Same.sqt e h1⟩
      · have g : Grow No k h (upd k p (.lst ys)) (upd h p (.lst ys)) := Grow.new e hn (by nofun)
        exact z _ _ _ _ g (.lst upd_same ((paired_repL hp).mono g.kk)) (q qs h1 h2)
theorem rc_srtI {ns : List Int} (q : ∀ ns' : List Int, ns'.Perm ns → ns'.Pairwise (· ≤ ·) → Φ (.lst (ns'.map D.int))) : RC K (rSortedI K) [.lst (ns.map D.int)] Φ := fun k h vs e r Q z => by
  cases r with
  | cons r1 r2 =>
    cases r2
    cases r1 with
    | lst ek er =>
      have eu := RepL.ints er
      subst eu
      refine ⟨_, ns, rfl, SqL.of (e _ _ ek), fun ns' p h1 h2 hn => ?_⟩
      have g : Grow No k h (upd k p (.lst (ns'.map V.int))) (upd h p (.lst (ns'.map V.int))) := Grow.new e hn (by nofun)
      exact z _ _ _ _ g (.lst upd_same (RepL.ofInts _)) (q ns' h1 h2)
/-- x not in rows, rows of data -/
theorem rd_ninD {d : D} {l : List D} (h1 : SeqAt.shaped d.toPy = true) (h2 : SeqAt.shaped (D.lst l).toPy = true) (q : Φ (.bl (!l.any fun z => PyData.eqv z.toPy d.toPy))) : RD K (rNotInD K) d (.lst l) Φ := fun k h v1 v2 e r1 r2 Q z => by
  have c1 : d.toPy.canLay0 = true := by unfold SeqAt.shaped at h1; exact (Bool.and_eq_true_iff.mp h1).1
  have c2 : (D.lst l).toPy.canLay0 = true := by unfold SeqAt.shaped at h2; exact (Bool.and_eq_true_iff.mp h2).1
  have any_map : ∀ l : List D, (toPyL l).any (fun z => PyData.eqv z d.toPy) = l.any fun z => PyData.eqv z.toPy d.toPy := fun l => by
    induction l with
    | nil => rfl
    | cons x l ih => show (PyData.eqv x.toPy d.toPy || _) = _; rw [ih]; rfl
  refine ⟨d.toPy, toPyL l, Dp.up e (Rep.dp r1 c1), Dp.up e (Rep.dp r2 c2), h1, h2, ?_⟩
  rw [any_map]
  exact z _ k h _ (Grow.refl e) (.bl _) q
end
end DL
namespace DK
open PySem PySem.Spec PyProof.Rows L2 DL
variable {X : Cx} {K : PySem.W.Frag}
theorem srtP (h : X.K = K := by rfl) : CallR X (.builtin "sorted") (rSrtP K) := by subst h; exact cr_srtP
theorem srtI (h : X.K = K := by rfl) : CallR X (.builtin "sorted") (rSortedI K) := by subst h; exact cr_sortedI
theorem op_ninD {j : Nat} (hr : Room j X.A) (h : X.K = K := by rfl) : OpR X (compareOp .NotIn) (rNotInD K) := by subst h; exact op_notInD (by have := hr.un; omega)
/-- a, b = a tuple or a list -/
def gSq (K : PySem.W.Frag) (n : Nat) (gs : TGs) : TG := fun v σ H Q => gTup K n gs v σ H Q ∨ gLst K n gs v σ H Q
theorem pg_sq {es : List Expr} {k : Nat} {t : TGs} {n : Nat} {pos : Pos} (hc : X.calm = true) (ha : PGs X es t) (h : X.K = K := by rfl)
    (hn : (assignEach es X.env).length = n := by rfl) (hst : (assignEach es X.env).findIdx? (·.1) = none := by rfl) : PG X (.Tuple es k pos) (gSq K n t) :=
  ⟨fun pins s σ H v u Q I r q => q.elim (fun q => (pg_tup hc ha h hn hst).run pins s σ H v u Q I r q) fun q => (pg_lst hc ha h hn hst).run pins s σ H v u Q I r q⟩
end DK
namespace DL
open PySem PySem.Spec PyProof.Rows L2 DX DK
theorem kg_sq {K : PySem.W.Frag} {n : Nat} {gs : TGs} {vs : List Nat} (h : KGs gs vs) : KG (gSq K n gs) vs := fun v σ hh Q q => by
  rcases q with ⟨a, xs, e1, e2, e3, q⟩ | ⟨a, xs, e1, e2, e3, q⟩
  · exact .inl ⟨a, xs, e1, e2, e3, h _ _ _ _ q⟩
  · exact .inr ⟨a, xs, e1, e2, e3, h _ _ _ _ q⟩
section
variable {c : Cn} {ς : Sta}
theorem wg_sq {n : Nat} {gs : TGs} {d : D} {ds : List D} {Φ : Sta → Prop} (hd : seqOf d = some ds) (hn : ds.length = n) (h : WGs c gs ds ς Φ) : WG c (gSq c.K n gs) d ς Φ := fun σ k hh v S r Q z => by
  cases d <;> cases hd
  · exact .inr (wg_lst hn h σ k hh v S r Q z)
  · exact .inl (wg_tup hn h σ k hh v S r Q z)
end
end DL

set_option Elab.async false
set_option linter.all false
set_option maxRecDepth 100000
set_option maxHeartbeats 4000000
/-! sorted(set(xs)), xs a list of ints -/
namespace DS
open PySem PySem.Spec PyProof.Rows L2
/-- what the first i are -/
def memB (ns : List Int) (i : Nat) (k : Int) : Bool := decide (k ∈ ns.take i)
theorem memB_next {ns : List Int} {i : Nat} {k : Int} (h : ns[i]? = some k) : (fun j => memB ns i j || decide (j = k)) = memB ns (i + 1) := by
  funext j
  unfold memB
  rw [take_next h, ← Bool.decide_or]
  refine decide_eq_decide.mpr ?_
  rw [List.mem_append, List.mem_singleton]
section
variable {P : Program} {w : World} {A : Around} {E : Value → Shared → Prop} {s : Shared}
/-- set.update's loop, ints -/
theorem set_update_intsR {I : Addr} {fp wr : List Addr} {G : Array GenState → Array GenState → Prop} {n : Nat} {Pv : Nat → Value → Prop} {St : Nat → Shared → Prop} {R : Result → Shared → Prop}
    (W : WalksS P w A.in1 I fp wr G n Pv St) (S : Addr) (hSf : S ∉ fp) (ns : List Int) (hn : n = ns.length) (hfew : ns.length < 64) (hval : ∀ i v, Pv i v → ∃ k tk, ns[i]? = some k ∧ v = .int k tk)
    (h0 : Heap) (hS0 : h0.get? S = none) (hw0 : ∀ b ∈ wr, h0.get? b = none) :
    ∀ (k i : Nat) (s : Shared), n - i = k → i ≤ n → St i s → (∀ b o, h0.get? b = some o → s.heap.get? b = some o) → (∃ m, m ≤ i ∧ SetR w s.heap S (memB ns i) m) →
      (∀ s' m, Moved (S :: wr) G s s' → m ≤ n → SetR w s'.heap S (memB ns n) m → (∀ b o, h0.get? b = some o → s'.heap.get? b = some o) → R (.ok (.ret .none)) s') →
      codeAny (model P w) A (.builtin "set.update.loop" ⟨[.ref S, .ref I], []⟩) R s := by
  have hSw : S ∉ wr := fun h => hSf (W.sub _ h)
  have hsub : ∀ b ∈ wr, b ∈ S :: wr := fun b hb => List.mem_cons_of_mem _ hb
  have keepM : ∀ {s s' : Shared}, Moved wr G s s' → (∀ b o, h0.get? b = some o → s.heap.get? b = some o) → ∀ b o, h0.get? b = some o → s'.heap.get? b = some o := fun hm hkp b o e =>
    hm.heap b o (fun hb => by rw [hw0 b hb] at e; cases e) (hkp b o e)
  intro k
  induction k with
  | zero =>
    intro i s hk' hi hst hkp ⟨m, hm0, hS⟩ hR
    have hin : i = n := by omega
    subst hin
    refine codeAny_builtin F.entry_set_update_loop ?_
    rw [Around.under_plainId F.plain_set_update_loop _]
    show wpAny _ A.in1 (pyNext (.ref I) >>= _) _ _ s
    refine wpAny_bind (W.done s _ _ hst fun s' hm => ?_)
    show wpAny _ A.in1 (ret Value.none) _ _ s'
    have hkp' := keepM hm hkp
    exact wpAny_pure (hR s' m (hm.mono hsub) hm0 (hS.at fun o e => hm.heap S o hSw e) hkp')
  | succ k ih =>
    intro i s hk' hi hst hkp ⟨m, hm0, hS⟩ hR
    have hlt : i < n := by omega
    refine codeAny_builtin F.entry_set_update_loop ?_
    rw [Around.under_plainId F.plain_set_update_loop _]
    show wpAny _ A.in1 (pyNext (.ref I) >>= _) _ _ s
    refine wpAny_bind (W.item i s _ _ hlt hst fun v s' hP hst' hm => ?_)
    obtain ⟨x, tk, hp, rfl⟩ := hval i v hP
    have hkp' := keepM hm hkp
    have hS' : SetR w s'.heap S (memB ns i) m := hS.at fun o e => hm.heap S o hSw e
    show wpAny _ A.in1 (holding [Value.int x tk] (setAdd S (.int x tk)) >>= _) _ _ s'
    refine wpAny_bind (wpAny_holding ?_)
    unfold setAdd
    refine wpAny_holding ?_
    refine wpAny_bind ((intKind P w).pyHash (intKind_is P w x tk) ?_)
    refine setR_add_hashed (s := { s' with toks := s'.toks + 1 }) hS' (by unfold scanBound; omega) fun h' hsb hS2 => ?_
    rw [memB_next hp] at hS2
    have hkp2 : ∀ b o, h0.get? b = some o → h'.get? b = some o := fun b o e => (hsb.2 b (fun z => by rw [z, hS0] at e; cases e)).trans (hkp' b o e)
    refine wpAny_pure ⟨plainId_quiet F.plain_set_update_loop _, ih (i + 1) _ (by omega) hlt (W.frame _ s' _ _ hst' (Nat.le_add_right _ _) fun b hb o e => ?_) hkp2 ⟨_, ?_, hS2⟩ fun s'' m2 hm'' hm2 hS'' hkp'' => ?_⟩
    · rw [hsb.2 b (fun h : b = S => hSf (by rw [← h]; exact hb))]; exact e
    · split <;> omega
    · refine hR s'' m2 (Moved.trans W.gtrans ((hm.mono hsub).then_heap (Nat.le_add_right _ _) fun b o hb e => ?_) hm'') hm2 hS'' hkp''
      rw [hsb.2 b (fun h : b = S => hb (by rw [h]; exact List.mem_cons_self))]; exact e
theorem ints_at : ∀ {vs : List Value} {ns : List Int}, IntsAre vs ns → ∀ (i : Nat) (v : Value), vs[i]? = some v → ∃ k tk, ns[i]? = some k ∧ v = .int k tk
  | _, _, .nil, i, v, h => by cases i <;> cases h
  | _, _, .cons k t r, 0, v, h => by cases h; exact ⟨k, t, rfl, rfl⟩
  | _, _, .cons k t r, i + 1, v, h => ints_at r i v h
set_option maxHeartbeats 3200000 in
/-- set(xs), ints -/
theorem call_set_intsR {l : Addr} {items : Array Value} (ns : List Int) {Q : Value → Shared → Prop} (hh : A.handled = none) (hl : s.heap.IsList l items) (hit : IntsAre items.toList ns)
    (hfew : ns.length < 64)
    (h : ∀ (h' : Heap) (tk : Nat) m, m ≤ ns.length → SetR w h' s.heap.objs.size (memB ns ns.length) m → (∀ b o, s.heap.get? b = some o → h'.get? b = some o) → Q (.ref s.heap.objs.size) { s with heap := h', toks := tk }) :
    wpAny (model P w) A (call (.type "set") [.ref l]) Q E s := by
  have hisz : items.size = ns.length := by
    have q := hit.length
    rw [Array.length_toList] at q
    first | exact q | exact q.symm
  obtain ⟨c, tl, hmro⟩ := F.called_set.mro
  have hmade := F.called_set.made
  have hsub := F.called_set.sub
  refine wpAny_call (codeAny_of_tree ?_)
  show wpAny _ _ (callAny (.type "set") _) _ _ _
  refine wpAny_pure ⟨Code.quiet_builtin _ (by decide +kernel), codeAny_builtin F.entry_type_call ?_⟩
  rw [Around.under_plain (weight_type_call_type "set" [.ref l] []) rfl]
  have h1 := F.called_set.notType
  have h2 := F.called_set.canCreate
  have hct := F.typeCall_set_1 (.ref l)
  repeat (any_goals (first | assumption | wp_step))

  refine codeAny_mono (code_set_led1 (.ref l) (E := E) (Q₁ := fun obj s₁ => obj = .ref s.heap.objs.size ∧ s₁ = { s with heap := s.heap.push { cls := .type "set", dict := none, data := .set #[] 0 (.fresh 0 0 (!w.params.followText "set-order")) } }) ⟨rfl, rfl⟩) fun r s₁ hr => ?_
  cases r with
  | error e => exact hr
  | ok fl =>
    cases fl with
    | ret obj =>
      obtain ⟨rfl, rfl⟩ := hr
      have hS : (s.heap.push { cls := .type "set", dict := none, data := .set #[] 0 (.fresh 0 0 (!w.params.followText "set-order")) }).get? s.heap.objs.size = some { cls := .type "set", dict := none, data := .set #[] 0 (.fresh 0 0 (!w.params.followText "set-order")) } := Heap.get?_push_size _ rfl
      have hT : Shared.TypeIs { s with heap := s.heap.push { cls := .type "set", dict := none, data := .set #[] 0 (.fresh 0 0 (!w.params.followText "set-order")) } } (.ref s.heap.objs.size) "set" := ⟨_, hS, rfl⟩
      have hli := F.called_set.init.lookup
      have hbi := F.called_set.init.bind (.ref s.heap.objs.size)
      repeat (any_goals (first | assumption | wp_step))

      refine codeAny_mono (codeAny_call_builtin (R := wants (fun r s₂ => r = .none ∧ ∃ h' tk m, s₂ = { s with heap := h', toks := tk } ∧ m ≤ ns.length ∧ SetR w h' s.heap.objs.size (memB ns ns.length) m ∧
          (∀ b o, s.heap.get? b = some o → h'.get? b = some o)) E) F.called_set.init.plain F.entry_set_init (check_set_init_1 hT ?_)) fun r₂ s₂ hr₂ => ?_
      · obtain ⟨ol, hol, hcl, nl, hdl⟩ := hl
        obtain ⟨ocls, odict, odata, oslots⟩ := ol
        simp only at hcl hdl
        subst hcl; subst hdl
        have hol' : (s.heap.push { cls := .type "set", dict := none, data := .set #[] 0 (.fresh 0 0 (!w.params.followText "set-order")) }).get? l = some { cls := .type "list", dict := odict, data := .seq items nl, slots := oslots } := Heap.get?_push_of_some _ hol
        have hsls := F.sub_list_set
        have hslf := F.sub_list_frozenset
        have hne : (Value.type "list" == Value.type "dict") = false := by decide
        have hl1 : (s.heap.push { cls := .type "set", dict := none, data := .set #[] 0 (.fresh 0 0 (!w.params.followText "set-order")) }).IsList l items := ⟨_, hol', rfl, nl, rfl⟩
        unfold Builtin.«set.__init__» noKeywords Builtin.Frozenset.updateFrom
        generalize hPI : pyIter = PI
        wp_walk
        subst hPI

        refine wpAny_pyIter_list hl1 ?_
        refine wpAny_bind (wpAny_runValue ?_)
        have hlS : l < s.heap.objs.size := Heap.lt_size hol
        have hh3 : A.in1.in1.in1.handled = none := by simp [hh]
        have hz1 : (s.heap.push { cls := .type "set", dict := none, data := .set #[] 0 (.fresh 0 0 (!w.params.followText "set-order")) }).objs.size = s.heap.objs.size + 1 := Heap.size_push ..
        have hneI : l ≠ (s.heap.push { cls := .type "set", dict := none, data := .set #[] 0 (.fresh 0 0 (!w.params.followText "set-order")) }).objs.size := by
          rw [Heap.size_push]; exact Nat.ne_of_lt (Nat.lt_succ_of_lt hlS)
        have hSf : s.heap.objs.size ∉ [(s.heap.push { cls := .type "set", dict := none, data := .set #[] 0 (.fresh 0 0 (!w.params.followText "set-order")) }).objs.size, l] := by
          rw [Heap.size_push]; simp only [List.mem_cons, List.mem_singleton, List.not_mem_nil, or_false, not_or]
          exact ⟨Nat.ne_of_lt (Nat.lt_succ_self _), Nat.ne_of_gt hlS⟩
        have hval : ∀ (i : Nat) (v : Value), items[i]? = some v → ∃ k tk, ns[i]? = some k ∧ v = .int k tk := fun i v hv => by
          have q : items.toList[i]? = some v := by rw [Array.getElem?_toList]; exact hv
          exact ints_at hit i v q
        have none_of : ∀ b, s.heap.objs.size ≤ b → s.heap.get? b = none := fun b hb => by
          cases q : s.heap.get? b with
          | none => rfl
          | some o => exact absurd (Nat.lt_of_lt_of_le (Heap.lt_size q) hb) (Nat.lt_irrefl _)
        refine set_update_intsR ((Walks.list hh3 _ l hneI items).toS) s.heap.objs.size
          hSf ns hisz hfew hval s.heap (none_of _ (Nat.le_refl _)) (fun b hb => none_of b (by
            rw [List.mem_singleton.mp hb, Heap.size_push]
            exact Nat.le_succ _)) (items.size - 0) 0 _ (by omega) (Nat.zero_le _)
          ⟨⟨_, Heap.get?_push_size _ rfl, rfl, rfl⟩, (hl1.push _)⟩ (fun b o e => Heap.get?_push_of_some _ (Heap.get?_push_of_some _ e)) ?hS0 ?hR
        case hS0 =>
          refine ⟨0, Nat.le_refl _, ?_⟩
          have e : memB ns 0 = fun _ => false := by
            funext k
            unfold memB
            rw [List.take_zero]
            rfl
          rw [e]
          exact (setR_fresh w).at fun o e => Heap.get?_push_of_some _ e
        case hR =>
          intro s' m hm hmn hS' hkp
          obtain ⟨h', g2, d', tk', os'⟩ := s'
          have eg : g2 = s.gens := hm.gens
          have ed : d' = s.drawn := hm.drawn
          have eo : os' = s.os := hm.os
          subst eg; subst ed; subst eo
          show wpAny _ _ _ _ _ _
          refine wpAny_pure ?_
          show wpAny _ _ (ret Value.none) _ _ _
          rw [hisz] at hS' hmn
          exact wpAny_pure ⟨rfl, h', tk', m, rfl, hmn, hS', hkp⟩

      · cases r₂ with
        | error e => exact hr₂
        | ok fl₂ =>
          cases fl₂ with
          | ret r =>
            obtain ⟨rfl, h', tk, m, rfl, hmn, hS', hk'⟩ := hr₂
            repeat (any_goals (first | assumption | wp_step))
            exact h _ _ _ hmn hS' hk'
          | _ => exact hr₂.elim
    | _ => exact hr.elim
end
section
variable {X : Cx}
/-- sorted(set(xs)) -/
def tSortSet (K : PySem.W.Frag) (ta : TE) : TE := fun σ H Q => ta σ H fun x H1 => ∃ (l : Addr) (ns : List Int), x = V.ref l ∧ SqL K H1 l (ns.map V.int) ∧ ns.length < 64 ∧
  ∀ (ms : List Int) (p : Addr), ms.Pairwise (· < ·) → (∀ k, k ∈ ms ↔ k ∈ ns) → H1 p = none → Q (.ref p) (upd H1 p (.lst (ms.map V.int)))
theorem pe_sortSet {a : Expr} {ta : TE} {p p2 q pos : Pos} (hc : X.calm = true) (hg : Gl X "sorted") (hm : X.mg "sorted" = none) (hg2 : Gl X "set") (hm2 : X.mg "set" = none) (ha : PE X a ta)
    (na : starEach [a] X.env = (false, eval a X.env) :: starEach [] X.env := by rfl) : PE X (.Call (.Name "sorted" p) [.Call (.Name "set" p2) [a] [] q] [] pos) (tSortSet X.K ta) := by
  refine ⟨fun pins s σ H Q I h => ?_⟩
  refine Call_ (ld_blt I hg hm PyProof.Rows.boot_sorted ?_)
  refine PyProof.Rows.callWith_builtin1 (PyProof.Rows.args_cons ?_ rfl) rfl rfl
  refine Call_ (ld_blt I hg2 hm2 PyProof.Rows.boot_set ?_)
  refine PyProof.Rows.callWith_type1 (PyProof.Rows.args_cons (thn (ha.run pins s σ H _ I h) fun v s1 ⟨x, H1, I1, r1, q1⟩ => PyProof.Rows.args_nil ?_) na) na rfl
  obtain ⟨l, ns, rfl, hq, h1, q1⟩ := q1
  cases r1
  obtain ⟨its, r, pl, hz⟩ := I1.list hq
  refine call_set_intsR ns (I1.ok.hd hc) pl.isList (by simpa using r.ints) h1 fun h' tk m hmn hS hk => ?_
  refine PyProof.Rows.args_nil ?_
  have I2 : Inv X pins σ H1 { s1 with heap := h', toks := tk } := I1.kept fun b o e => hk b o e
  have hS2 : SetR X.w ({ s1 with heap := h', toks := tk } : Shared).heap s1.heap.objs.size (memB ns ns.length) m := hS
  generalize ({ s1 with heap := h', toks := tk } : Shared) = s2 at I2 hS2 ⊢
  refine sorted_set hS2 (I2.ok.hd hc) (by omega) fun s' p out c ms k g o hp hg' hi hpw hmem hlen => ?_
  have hl2 : (ms.map V.int).length ≤ sizeLine := by rw [List.length_map, sizeLine_eq]; omega
  have hn : H1 p = none := I2.hok.fresh hp
  have hv : Vals (ms.map V.int) out.toList := vals_of_ints hi
  have J : Inv X pins σ (upd H1 p (.lst (ms.map V.int))) { s2 with heap := s'.heap, gens := s'.gens, drawn := s'.drawn, toks := s'.toks } :=
    I2.call (ch := []) (Un.laid k hp hn) (I2.hok.laid k hp ⟨hl2, out.toList, c, hv, hg'⟩) (by rw [g]; exact I2.bare) (fun _ z => nomatch z)
  have e : s' = { s2 with heap := s'.heap, gens := s'.gens, drawn := s'.drawn, toks := s'.toks } := by
    cases s'
    cases s2
    cases o
    rfl
  rw [e]
  refine ⟨.ref p, _, J, rfl, q1 ms p hpw (fun z => ?_) hn⟩
  rw [hmem z]
  unfold memB
  rw [List.take_length]
  exact decide_eq_true_iff
/-- any([..]), ints -/
def rAnyI (K : PySem.W.Frag) : List V → Hp → VK → Prop := fun vs H Q => ∃ (a : Addr) (ns : List Int), vs = [V.ref a] ∧ SqL K H a (ns.map V.int) ∧ Q (.bl (ns.any fun n => n != 0)) H
theorem truth_ints {prog : Program} {w : World} {A : Around} {ns : List Int} {its : List Value} (e : IntsAre its ns) :
    TruthOf prog w A (fun i v => its.toArray[i]? = some v) (fun i => (ns.map fun n => n != 0).getD i false) := fun i v s Q E hv hq => by
  have hv' : its[i]? = some v := by simpa using hv
  obtain ⟨k, tk, hk, rfl⟩ := ints_at e i v hv'
  have hg : (ns.map fun n => n != 0).getD i false = (k != 0) := by rw [List.getD_eq_getElem?_getD, List.getElem?_map, hk]; rfl
  have hq' : Q ((ns.map fun n => n != 0).getD i false) s := hq
  rw [hg] at hq'
  exact P.truthy_int hq'
theorem cr_anyI {X : Cx} (hc : X.calm = true) : CallR X (.builtin "any") (rAnyI X.K) := by
  intro pins s σ H vs us Q I r h
  obtain ⟨a, ns, rfl, hs, q⟩ := h
  obtain ⟨its, rv, hl, _⟩ := I.list hs
  rw [Vals.ref1 r]
  have hb : IntsAre its ns := by simpa using rv.ints
  refine call_any_walk (iter_any hl.isList fun s₂ e2 st hne => ?_)
  subst e2
  refine ⟨_, _, _, _, _, _, _, rfl, Walks.list (A := X.A.in1) (I.ok.hd hc) _ a hne its.toArray, st, truth_ints hb, fun h' tk hk => ?_⟩
  refine ⟨.bl _, H, I.kept fun b o eo => hk b o (fun hmem => ?_) (Heap.get?_push_of_some _ eo), ?_, q⟩
  · rcases List.mem_cons.mp hmem with e1 | hmem
    · exact absurd (e1 ▸ Heap.lt_size eo) (Nat.lt_irrefl _)
    · cases hmem
  · show Value.bool _ = Value.bool _
    have e1 := any_range (ns.map fun n => n != 0)
    rw [List.length_map, List.any_map] at e1
    have e2 : its.toArray.size = ns.length := by rw [List.size_toArray]; first | exact hb.length | exact hb.length.symm
    rw [e2, e1]
    rfl
end
end DS
namespace DK
open PySem PySem.Spec PyProof.Rows L2 DS
variable {X : Cx} {K : PySem.W.Frag}
theorem anyI (h : X.K = K := by rfl) (hc : X.calm = true := by rfl) : CallR X (.builtin "any") (rAnyI K) := by subst h; exact cr_anyI hc
theorem sortSet {a : Expr} {ta : TE} {p p2 q pos : Pos} (hc : X.calm = true) (hg : Gl X "sorted") (hm : X.mg "sorted" = none) (hg2 : Gl X "set") (hm2 : X.mg "set" = none) (ha : PE X a ta) (h : X.K = K := by rfl)
    (na : starEach [a] X.env = (false, eval a X.env) :: starEach [] X.env := by rfl) : PE X (.Call (.Name "sorted" p) [.Call (.Name "set" p2) [a] [] q] [] pos) (tSortSet K ta) := by
  subst h
  exact pe_sortSet hc hg hm hg2 hm2 ha na
end DK
namespace DL
open PySem PySem.Spec PyProof.Rows L2 DX DS
section
variable {K : PySem.W.Frag} {Φ : D → Prop}
theorem rc_anyI {ns : List Int} (q : Φ (.bl (ns.any fun n => n != 0))) : RC K (rAnyI K) [.lst (ns.map D.int)] Φ := fun k h vs e r Q z => by
  cases r with
  | cons r1 r2 =>
    cases r2
    cases r1 with
    | lst h1 r1 =>
      have ev := RepL.ints r1
      subst ev
      exact ⟨_, ns, rfl, SqL.of (e _ _ h1), z _ k h _ (Grow.refl e) (.bl _) q⟩
end
section
variable {c : Cn} {ς : Sta} {Φ : D → Sta → Prop}
theorem we_sortSet {te : TE} (h : WE c te ς fun d ς1 => ∃ ns : List Int, d = .lst (ns.map D.int) ∧ ns.length < 64 ∧ ∀ ms : List Int, ms.Pairwise (· < ·) → (∀ k, k ∈ ms ↔ k ∈ ns) → Φ (.lst (ms.map D.int)) ς1) : WE c (tSortSet c.K te) ς Φ := fun σ k hh S Q z =>
  h σ k hh S _ fun v k1 h1 d ς1 S1 e1 r1 ⟨ns, ed, hl, q⟩ => by
    subst ed
    cases r1 with
    | lst ek er =>
      have eu := RepL.ints er
      subst eu
      refine ⟨_, ns, rfl, SqL.of (S1.kh _ _ ek), hl, fun ms p hp hm hn => ?_⟩
      have g : Grow No k1 h1 (upd k1 p (.lst (ms.map V.int))) (upd h1 p (.lst (ms.map V.int))) := Grow.new S1.kh hn (by nofun)
      exact z _ _ _ _ ς1 (S1.grow g) (e1.trans g.kk) (.lst upd_same (RepL.ofInts _)) (q ms hp hm)
end
end DL

set_option Elab.async false
set_option linter.all false
set_option maxRecDepth 100000
set_option maxHeartbeats 4000000
/-! what the top has written, by one look: defs, own exceptions, tables -/
namespace DY
open PySem PySem.Spec PyProof.Rows L2 He
/-- the own exception's class object -/
def clsB (K : PySem.W.Frag) (C : Addr) : Bool := match K.lookup C with
  | some ⟨.type "type", _, .cls cd, sl⟩ => (match cd.mro, sl.toList with
    | .ref C' :: bm, [_, _, _, _, some (.builtin n), _] => C' == C && n == "ValueError.__new__" && !cd.hasDel && cd.hasDict && PySem.HandSPX.refsVE bm
    | _, _ => false)
  | _ => false
theorem clsB_ok {K : PySem.W.Frag} {C : Addr} (q : clsB K C = true) : ∃ nm q N bs bm sn sub ab col dd k0 k1 k2 k3 k5, K.lookup C = some (excClassObj nm q C N bs bm true sn sub ab col dd k0 k1 k2 k3 k5 "ValueError.__new__") ∧ PySem.HandSPX.refsVE bm = true := by
  unfold clsB at q
  split at q
  · rename_i dd cd sl ho
    split at q
    · rename_i C' bm k0 k1 k2 k3 n k5 hm hs
      simp only [Bool.and_eq_true, beq_iff_eq, Bool.not_eq_true'] at q
      obtain ⟨⟨⟨⟨rfl, rfl⟩, hdel⟩, hd'⟩, ht⟩ := q
      obtain ⟨nm, bs, mro, ns, qn, hd, sn, sub, ab, col, del⟩ := cd
      dsimp only at hm hdel hd'
      subst hm hdel hd'
      have hsl : sl = #[k0, k1, k2, k3, some (.builtin "ValueError.__new__"), k5] := by
        obtain ⟨l⟩ := sl
        simp only at hs
        rw [hs]
      subst hsl
      exact ⟨nm, qn, ns, bs, bm, sn, sub, ab, col, dd, k0, k1, k2, k3, k5, ho, ht⟩
    · cases q
  · cases q
/-- its __init__ -/
abbrev ini (K : PySem.W.Frag) (x : Str) : Addr := ma K (ga K x) "__init__"
abbrev ExV : Type := Option (Str × Str × Arguments × FuncBody × Scope)
def exF (K : PySem.W.Frag) (x : Str) : ExV := match K.lookup (ini K x) with
  | some ⟨_, _, .func fd, _⟩ => some (fd.name, fd.qualname, fd.params, fd.body, fd.scope)
  | _ => none
def fnB (K : PySem.W.Frag) (file : Str) (x q : Str) : Bool := match K.lookup (ini K x) with
  | some ⟨_, _, .func ⟨_, _, _, _, _, g, clo, .none, .none, _, _, _, .ref cda, _, b⟩, _⟩ => g == mainGlobals && b == builtinsNs && PySem.W.codeIn K (.ref cda) q &&
    (match clo with
      | [(y, cc)] => y == "__class__" && (match K.lookup cc with
        | some ⟨_, _, .cell (some (.ref C)), _⟩ => C == ga K x
        | _ => false)
      | _ => false) &&
    (match K.lookup cda with
      | some ⟨_, _, .fields vs, _⟩ => (match (vs[2]? : Option Value) with
        | some (.str f _) => file == f
        | _ => false)
      | _ => false)
  | _ => false
/-- one own exception: its name, its fields, its __init__ -/
structure XD where
  x : Str
  fs : List Str
  qual : Str
  params : Arguments
  body : List Stmt
  scope : Scope
def XD.val (d : XD) : ExV := some ("__init__", d.qual, d.params, .stmts d.body, d.scope)
def XD.ok (K : PySem.W.Frag) (file : Str) (d : XD) : Bool :=
  (Fa.glo d.x).ok K && clsB K (ga K d.x) && eqO (PySem.W.findIn K (.ref (ga K d.x)) "__setattr__") (some (some (.builtin "object.__setattr__"))) && xfB K (ga K d.x) &&
  d.fs.all (fun f => eqO (PySem.W.findIn K (.ref (ga K d.x)) f) (some none)) && eqO (PySem.W.findIn K (.ref (ga K d.x)) "__init__") (some (some (.ref (ini K d.x)))) &&
  decide (PySem.W.typeIn K (.ref (ini K d.x)) = some (.type "function")) && PySem.W.keepIn K (.ref (ga K d.x)) && decide (PySem.W.typeIn K (.ref (ga K d.x)) = some (.type "type")) &&
  decide (PySem.W.subIn K (.ref (ga K d.x)) (.type "ValueError") = some true) && decide (PySem.W.exmOne K (.ref (ga K d.x)) (.ref (ga K d.x)) = some true) &&
  eqO (PySem.W.ks_superIn K (ga K d.x) (ga K d.x) "__init__") (some (some (.builtin "ValueError.__init__"))) && decide (PySem.W.mroIn K (ga K d.x) (.ref (ga K d.x)) = some true) &&
  fnB K file d.x d.qual
/-- what the words of such an __init__ say: by looks at its text -/
structure XShape (d : XD) : Prop where
  sh : DX.Shape d.params d.body d.scope d.fs
  bd : ∀ (doc pm : Value) (an : Option Addr) (cdv ct : Value) (cc : Addr) (us : List Value), us.length = d.fs.length + 1 → bindArgs (PySem.W.ksFn "__init__" d.qual d.params d.body d.scope .none .none doc pm an cdv ct cc) ⟨us, []⟩ = pure ((("self" : Str) :: d.fs).zip us)
theorem XD.txt {P : Program} {K : PySem.W.Frag} {mg : Str → Option Value} {h : Heap} {d : XD} (X : K.In h) (G : h.Ns mainGlobals mg) (e : exF K d.x = d.val) (c : d.ok K P.main.file = true) (S : XShape d) (hs : PySem.W.nsIn K mainGlobals "super" = some none) (ha : PySem.W.nsIn K cStatics "thirdparty.any" = some none)
    (ht : (P.main.scope.names.lookup ("super" : Str)).isSome = false) : DX.Txt P K mg d.x (ga K d.x) (ini K d.x) d.fs := by
  unfold XD.ok at c
  simp only [Bool.and_eq_true, List.all_eq_true, decide_eq_true_eq] at c
  obtain ⟨⟨⟨⟨⟨⟨⟨⟨⟨⟨⟨⟨⟨c1, c2⟩, c3⟩, c4⟩, c5⟩, c6⟩, c7⟩, c8⟩, c9⟩, c10⟩, c11⟩, c12⟩, c13⟩, c14⟩ := c
  refine { gC := glo_ok X G c1, cls := clsB_ok c2, sa := eqO_ok c3, xf := xfB_ok c4, noN := fun f hf => eqO_ok (c5 f hf), iC := eqO_ok c6, tC := c7, kC := c8, tyC := c9, veC := c10, te := c11, sup := eqO_ok c12, hsub := c13, hsuper := hs, any := ha, top := ht, fn := ?_ }
  unfold fnB at c14
  unfold exF at e
  split at c14
  · rename_i oc od n1 n2 n3 n4 n5 g clo doc pm an cda ct b osl lk
    rw [lk] at e
    have e2 : (some (n1, n2, n3, n4, n5) : ExV) = (some (("__init__" : Str), d.qual, d.params, FuncBody.stmts d.body, d.scope) : ExV) := e
    simp only [Option.some.injEq, Prod.mk.injEq] at e2
    obtain ⟨h1, h2, h3, h4, h5⟩ := e2
    subst h1 h2 h3 h4 h5
    simp only [Bool.and_eq_true, beq_iff_eq] at c14
    obtain ⟨⟨⟨⟨rfl, rfl⟩, z3⟩, z4⟩, z5⟩ := c14
    split at z4
    · rename_i y cc
      simp only [Bool.and_eq_true, beq_iff_eq] at z4
      obtain ⟨rfl, z4⟩ := z4
      split at z4
      · rename_i cl cld C csl lc
        have z4 := beq_iff_eq.mp z4
        subst z4
        split at z5
        · rename_i ccl cdd vs ccs lv
          split at z5
          · rename_i f tf hv
            exact ⟨oc, ccl, cl, doc, pm, ct, od, an, cdd, cld, osl, ccs, csl, cda, cc, d.qual, d.params, d.body, d.scope, vs, f, tf, lk, z3, S.sh, fun s us hl => .of_eq (S.bd doc pm an (.ref cda) ct cc us hl), lv, hv, z5, lc⟩
          · cases z5
        · cases z5
      · cases z4
    · cases z4
  · cases c14
/-! ### the Hook -/
def asY (g : Addr → Option Obj) (n : Nat) : List Addr := asD g n ++ [cStatics]
abbrev AlY : Type := (AlT × List ExV) × Bool
def moreY (file : Str) (xs : List XD) (ex : PySem.W.Frag → Bool) (g : Addr → Option Obj) (tf : List Defn) (K : PySem.W.Frag) : Bool :=
  ex K && xs.all (fun d => d.ok K file) && eqO (PySem.W.nsIn K mainGlobals "super") (some none) && eqO (PySem.W.nsIn K cStatics "thirdparty.any") (some none) && tabsB g tf K
def obsK (file : Str) (fa : List Fa) (fn : List DefD) (ts : List Tab) (xs : List XD) (ex : PySem.W.Frag → Bool) (tf : List Defn) (g : Addr → Option Obj) (K : PySem.W.Frag) : AlY := ((obsT fa fn ts K, xs.map fun d => exF K d.x), moreY file xs ex g tf K)
def obsY (n : Nat) (file : Str) (fa : List Fa) (fn : List DefD) (ts : List Tab) (xs : List XD) (ex : PySem.W.Frag → Bool) (tf : List Defn) (g : Addr → Option Obj) : AlY := obsK file fa fn ts xs ex tf g (frT g (asY g n))
def valY (fn : List DefD) (ts : List Tab) (xs : List XD) (w : World) : AlY := ((valT fn ts w, xs.map XD.val), true)
structure SaysY (file : Str) (fa : List Fa) (fn : List DefD) (ts : List Tab) (xs : List XD) (ex : PySem.W.Frag → Bool) (tf : List Defn) (w : World) (h : Heap) (K : PySem.W.Frag) : Prop where
  t : SaysT fa fn ts w K
  x : ∀ d ∈ xs, exF K d.x = d.val
  ok : ∀ d ∈ xs, d.ok K file = true
  more : ex K = true
  sup : PySem.W.nsIn K mainGlobals "super" = some none
  any : PySem.W.nsIn K cStatics "thirdparty.any" = some none
  hd : ∀ p ∈ tf, PySem.W.codeHdIn K (cT K p).1 (cT K p).2 = true
  out : ∀ p ∈ tf, K.lookup (cT K p).2 = none
  empty : ∀ p ∈ tf, h.get? (cT K p).2 = some { cls := .none, data := .fields #[] }
theorem map_all {α β : Type} {f g : α → β} : ∀ {l : List α}, l.map f = l.map g → ∀ d ∈ l, f d = g d
  | [], _, _, h => nomatch h
  | a :: l, e, d, h => by
    injection e with e1 e2
    rcases List.mem_cons.mp h with rfl | h
    · exact e1
    · exact map_all e2 d h
theorem saysY_of {n : Nat} {file : Str} {fa : List Fa} {fn : List DefD} {ts : List Tab} {xs : List XD} {ex : PySem.W.Frag → Bool} {tf : List Defn} {w : World} {h : Heap} (e : obsY n file fa fn ts xs ex tf h.get? = valY fn ts xs w) : SaysY file fa fn ts xs ex tf w h (frT h.get? (asY h.get? n)) := by
  have e1 : obsT fa fn ts (frT h.get? (asY h.get? n)) = valT fn ts w := congrArg (fun z : AlY => z.1.1) e
  have e2 : (xs.map fun d => exF (frT h.get? (asY h.get? n)) d.x) = xs.map XD.val := congrArg (fun z : AlY => z.1.2) e
  have e3 : moreY file xs ex h.get? tf (frT h.get? (asY h.get? n)) = true := congrArg (fun z : AlY => z.2) e
  unfold moreY at e3
  obtain ⟨e3, e4⟩ := ba e3
  obtain ⟨e3, e5⟩ := ba e3
  obtain ⟨e3, e6⟩ := ba e3
  obtain ⟨e7, e3⟩ := ba e3
  have key : ∀ p ∈ tf, PySem.W.codeHdIn (frT h.get? (asY h.get? n)) (cT (frT h.get? (asY h.get? n)) p).1 (cT (frT h.get? (asY h.get? n)) p).2 = true ∧ ∃ o, h.get? (cT (frT h.get? (asY h.get? n)) p).2 = some o ∧ emptyTab o = true := fun p hp => by
    obtain ⟨h3, h4⟩ := ba (List.all_eq_true.mp e4 p hp)
    refine ⟨h3, ?_⟩
    cases q : h.get? (cT (frT h.get? (asY h.get? n)) p).2 with
    | none =>
      rw [q] at h4
      cases h4
    | some o =>
      rw [q] at h4
      exact ⟨o, rfl, h4⟩
  exact ⟨e1, map_all e2, fun d hd => List.all_eq_true.mp e3 d hd, e7, eqO_ok e6, eqO_ok e5, fun p hp => (key p hp).1, fun p hp => by
    obtain ⟨_, o, q, z⟩ := key p hp
    exact frT_none q z, fun p hp => by
    obtain ⟨_, o, q, z⟩ := key p hp
    rw [q, emptyTab_eq z]⟩
def hookY (n : Nat) (file : Str) (fa : List Fa) (fn : List DefD) (ts : List Tab) (xs : List XD) (ex : PySem.W.Frag → Bool) (tf : List Defn) : PySem.W.Hook where
  α := AlY
  obs := fun s => obsY n file fa fn ts xs ex tf s.heap.get?
  val := fun w => valY fn ts xs w
  says := fun w h => ∃ K : PySem.W.Frag, K.In h ∧ SaysY file fa fn ts xs ex tf w h K
  of := fun _ _ e => ⟨_, frT_in, saysY_of e⟩
  keeps := fun _ _ _ ⟨K, hK, c⟩ k => ⟨K, PySem.W.Frag.In.keeps hK k, ⟨c.t, c.x, c.ok, c.more, c.sup, c.any, c.hd, c.out, fun p hp => k _ _ (c.empty p hp)⟩⟩
theorem obsY_eq {n : Nat} {file : Str} {fa : List Fa} {fn : List DefD} {ts : List Tab} {xs : List XD} {ex : PySem.W.Frag → Bool} {tf : List Defn} {g : Addr → Option Obj} {s : Shared} (h : ∀ a, g a = s.heap.get? a) : obsY n file fa fn ts xs ex tf g = (hookY n file fa fn ts xs ex tf).obs s := by
  have e : g = s.heap.get? := funext h
  rw [e] <;> rfl
/-- a def without defaults -/
theorem fun_of {K : PySem.W.Frag} {x qual : Str} {st : Stmt} {f : Addr} {fd : FuncData} (F : FunD K x qual (defArgs st) (defBody st) (defScope st) [] [] f fd) : Fun K x qual st f fd := by
  obtain ⟨oc, od, dV, kV, doc, pm, an, cdv, ct, osl, e, lk, hcd, hD, hK⟩ := F.ex
  rcases hD with ⟨_, rfl⟩ | ⟨e, _⟩
  · exact ⟨⟨oc, od, kV, doc, pm, an, cdv, ct, osl, e, lk, hcd⟩, F.kp⟩
  · exact absurd rfl e
/-- a module's def, told by its name -/
theorem fun_at {K : PySem.W.Frag} {h : Heap} {mg : Str → Option Value} {file : Str} {fa : List Fa} {fn : List DefD} {ts : List Tab} {xs : List XD} {ex : PySem.W.Frag → Bool} {tf : List Defn} {w : World} (X : K.In h) (G : h.Ns mainGlobals mg) (c : SaysY file fa fn ts xs ex tf w h K) (x : Str) (st : Stmt) (ps : List Str)
    (hd : (⟨(x, none), x, x, defArgs st, defBody st, defScope st, [], []⟩ : DefD) ∈ fn) (hx : Fa.glo x ∈ fa)
    (hb : ∀ (kV doc pm : Value) (an : Option Addr) (cdv ct : Value) (us : List Value), us.length = ps.length → bindArgs (PySem.W.fnOf x x (defArgs st) (defBody st) (defScope st) .none kV doc pm an cdv ct) ⟨us, []⟩ = pure (ps.zip us)) :
    ∃ (a : Addr) (fd : FuncData), Fun K x x st a fd ∧ mg x = some (.ref a) ∧ Binds K fd ps [] := by
  obtain ⟨fd, F⟩ := SaysD.defs c.t.d hd
  have F2 := fun_of F
  exact ⟨_, fd, F2, glo_ok X G (SaysD.facts c.t.d hx), F2.binds hb⟩
theorem free_at {K : PySem.W.Frag} {h : Heap} {mg : Str → Option Value} {file : Str} {fa : List Fa} {fn : List DefD} {ts : List Tab} {xs : List XD} {ex : PySem.W.Frag → Bool} {tf : List Defn} {w : World} (X : K.In h) (G : h.Ns mainGlobals mg) (c : SaysY file fa fn ts xs ex tf w h K) {x : Str} (hx : Fa.free x ∈ fa) : mg x = none := free_ok X G (SaysD.facts c.t.d hx)
theorem int_at {K : PySem.W.Frag} {h : Heap} {mg : Str → Option Value} {file : Str} {fa : List Fa} {fn : List DefD} {ts : List Tab} {xs : List XD} {ex : PySem.W.Frag → Bool} {tf : List Defn} {w : World} (X : K.In h) (G : h.Ns mainGlobals mg) (c : SaysY file fa fn ts xs ex tf w h K) {x : Str} {i : Int} (hx : Fa.int x i ∈ fa) : ∃ u, mg x = some u ∧ RelV (.int i) u := by
  obtain ⟨t, e⟩ := int_ok X G (SaysD.facts c.t.d hx)
  exact ⟨_, e, t, rfl⟩
theorem str_at {K : PySem.W.Frag} {h : Heap} {mg : Str → Option Value} {file : Str} {fa : List Fa} {fn : List DefD} {ts : List Tab} {xs : List XD} {ex : PySem.W.Frag → Bool} {tf : List Defn} {w : World} (X : K.In h) (G : h.Ns mainGlobals mg) (c : SaysY file fa fn ts xs ex tf w h K) {x z : Str} (hx : Fa.str x z ∈ fa) : ∃ u, mg x = some u ∧ RelV (.str z) u := by
  obtain ⟨t, e⟩ := str_ok X G (SaysD.facts c.t.d hx)
  exact ⟨_, e, t, rfl⟩
/-- the law's code object -/
theorem code_at {K : PySem.W.Frag} {h : Heap} {mg : Str → Option Value} {file : Str} {fa : List Fa} {fn : List DefD} {ts : List Tab} {xs : List XD} {ex : PySem.W.Frag → Bool} {tf : List Defn} {w : World} (X : K.In h) (G : h.Ns mainGlobals mg) (c : SaysY file fa fn ts xs ex tf w h K) {x : Str} (hx : Fa.glo x ∈ fa) {a : Addr} {oc : Value} {od : Option Addr} {fd : FuncData} {osl : Array (Option Value)} {cc : Addr}
    (hm : mg x = some (.ref a)) (lk : K.lookup a = some ⟨oc, od, .func fd, osl⟩) (e : fd.code = .ref cc) : cc = codeOf K (x, none) := by
  have e1 := hm.symm.trans (glo_ok X G (SaysD.facts c.t.d hx))
  cases e1
  exact (codeOf_eq (p := (x, none)) lk e).symm
/-! ### own classes -/
def kinds : List String := ["NoneType", "bool", "int", "str", "list", "tuple", "dict"]
theorem kinds_all {p : String → Bool} (h : kinds.all p = true) {s : String} (k : DL.Knd s) : p s = true := by
  refine List.all_eq_true.mp h s ?_
  rcases k with rfl | rfl | rfl | rfl | rfl | rfl | rfl <;> simp [kinds]
def ckB (K : PySem.W.Frag) (x : Str) : Bool :=
  (Fa.cls x).ok K && eqO (PySem.W.findIn K (.ref (ga K x)) "__class__") (some (some (.builtin "object.__class__"))) && eqO (PySem.W.specialIn K (.builtin "object.__class__") "__get__") (some (some (.builtin "getset_descriptor.__get__"))) &&
  decide (PySem.W.takesIn K (.builtin "object.__class__") = some true) && decide (PySem.W.mroIn K (ga K x) (.type "object") = some true) && decide (PySem.W.kitOne K (.ref (ga K x)) (.ref (ga K x)) = some true) &&
  kinds.all (fun s => decide (PySem.W.kitOne K (.type s) (.ref (ga K x)) = some false)) && kinds.all (fun s => PySem.W.notFirst K (ga K x) (.type s)) && PySem.W.selfFirst K (ga K x)
theorem ckB_ok {K : PySem.W.Frag} {x : Str} (h : ckB K x = true) : DL.CK K (ga K x) := by
  unfold ckB at h
  obtain ⟨h, h9⟩ := ba h
  obtain ⟨h, h8⟩ := ba h
  obtain ⟨h, h7⟩ := ba h
  obtain ⟨h, h6⟩ := ba h
  obtain ⟨h, h5⟩ := ba h
  obtain ⟨h, h4⟩ := ba h
  obtain ⟨h, h3⟩ := ba h
  obtain ⟨h1, h2⟩ := ba h
  exact ⟨⟨cls_ok h1, eqO_ok h2, eqO_ok h3, of_decide_eq_true h4, of_decide_eq_true h5, of_decide_eq_true h6⟩, fun s k => of_decide_eq_true (kinds_all h7 k), fun s k => kinds_all h8 k, h9⟩
def neB (K : PySem.W.Frag) (C : Addr) : Bool := match K.lookup C with
  | some ⟨.type "type", _, .cls cd, sl⟩ => (match cd.mro, sl.toList with
    | [.ref C', .type "object"], [_, _, _, _, some (.builtin _), _] => C' == C && !cd.hasDel && cd.hasDict && PySem.W.nsOkIn K cd.ns && eqO (PySem.W.nsIn K cd.ns "__ne__") (some none) &&
      (match PySem.W.nsIn K cd.ns "__eq__" with
        | some (some (.ref f)) => eqO (PySem.W.findIn K (.ref C) "__eq__") (some (some (.ref f))) && (match K.lookup f with
          | some ⟨.type "function", _, _, _⟩ => true
          | _ => false)
        | _ => false)
    | _, _ => false)
  | _ => false
theorem neB_ok {K : PySem.W.Frag} {C : Addr} (q : neB K C = true) : DL.NeC K C := by
  unfold neB at q
  split at q
  · rename_i dd cd sl ho
    split at q
    · rename_i C' k0 k1 k2 k3 n k5 hm hs
      obtain ⟨q, q6⟩ := ba q
      obtain ⟨q, q5⟩ := ba q
      obtain ⟨q, q4⟩ := ba q
      obtain ⟨q, q3⟩ := ba q
      obtain ⟨q1, q2⟩ := ba q
      have q1 := beq_iff_eq.mp q1
      subst q1
      obtain ⟨nm, bs, mro, ns, qn, hd, sn, sub, ab, col, del⟩ := cd
      dsimp only at hm q2 q3 q4 q5 q6
      have q2 : del = false := by simpa using q2
      subst hm q2 q3
      have hsl : sl = #[k0, k1, k2, k3, some (.builtin n), k5] := by
        obtain ⟨l⟩ := sl
        simp only at hs
        rw [hs]
      subst hsl
      split at q6
      · rename_i f e1
        obtain ⟨q6, q7⟩ := ba q6
        split at q7
        · rename_i od dt sl' lf
          exact ⟨nm, qn, ns, bs, sn, sub, ab, col, dd, k0, k1, k2, k3, k5, n, ho, q4, eqO_ok q5, f, e1, eqO_ok q6, _, lf, rfl⟩
        · cases q7
      · cases q6
    · cases q
  · cases q
section
variable {K : PySem.W.Frag} {h : Heap} {mg : Str → Option Value} {file : Str} {fa : List Fa} {fn : List DefD} {ts : List Tab} {xs : List XD} {ex : PySem.W.Frag → Bool} {tf : List Defn} {w : World}
/-- a method, told by its class and name -/
theorem meth_at (c : SaysY file fa fn ts xs ex tf w h K) (C m q : Str) (st : Stmt) (ps : List Str) (hd : (⟨(C, some m), m, q, defArgs st, defBody st, defScope st, [], []⟩ : DefD) ∈ fn) (hm : Fa.meth C m ∈ fa) (hc : Fa.cls C ∈ fa)
    (hb : ∀ (kV doc pm : Value) (an : Option Addr) (cdv ct : Value) (us : List Value), us.length = ps.length → bindArgs (PySem.W.fnOf m q (defArgs st) (defBody st) (defScope st) .none kV doc pm an cdv ct) ⟨us, []⟩ = pure (ps.zip us)) :
    ∃ (f : Addr) (fd : FuncData), Cls K (ga K C) ∧ Meth K (ga K C) m f ∧ Fun K m q st f fd ∧ Binds K fd ps [] := by
  obtain ⟨fd, F⟩ := SaysD.defs c.t.d hd
  have F2 := fun_of F
  exact ⟨_, fd, cls_ok (SaysD.facts c.t.d hc), meth_ok (SaysD.facts c.t.d hm), F2, F2.binds hb⟩
theorem init_at (c : SaysY file fa fn ts xs ex tf w h K) (C q : Str) (st : Stmt) (ps : List Str) (hd : (⟨(C, some "__init__"), "__init__", q, defArgs st, defBody st, defScope st, [], []⟩ : DefD) ∈ fn) (hm : Fa.mkr C ∈ fa)
    (hb : ∀ (kV doc pm : Value) (an : Option Addr) (cdv ct : Value) (us : List Value), us.length = ps.length → bindArgs (PySem.W.fnOf "__init__" q (defArgs st) (defBody st) (defScope st) .none kV doc pm an cdv ct) ⟨us, []⟩ = pure (ps.zip us)) :
    ∃ (f : Addr) (fd : FuncData), Mk K (ga K C) f ∧ Fun K "__init__" q st f fd ∧ Binds K fd ps [] := by
  obtain ⟨fd, F⟩ := SaysD.defs c.t.d hd
  have F2 := fun_of F
  exact ⟨_, fd, mkr_ok (SaysD.facts c.t.d hm), F2, F2.binds hb⟩
theorem noat_at (c : SaysY file fa fn ts xs ex tf w h K) {C f : Str} (hc : Fa.cls C ∈ fa) (hn : Fa.noat C f ∈ fa) : Cls K (ga K C) ∧ NoAttr K (ga K C) f := ⟨cls_ok (SaysD.facts c.t.d hc), noat_ok (SaysD.facts c.t.d hn)⟩
theorem glo_at (X : K.In h) (G : h.Ns mainGlobals mg) (c : SaysY file fa fn ts xs ex tf w h K) {x : Str} (hx : Fa.glo x ∈ fa) : mg x = some (.ref (ga K x)) := glo_ok X G (SaysD.facts c.t.d hx)
end
end DY

set_option Elab.async false
set_option linter.all false
set_option maxRecDepth 100000
set_option maxHeartbeats 4000000
namespace K10
open PySem PySem.Spec PyProof.Rows L2 DL
def topS (i : Nat) : Stmt := PySem.Challenge.pw_weaktalks_k10_whole_heaviest.main.body.getD i (.Pass ⟨0, 0, 0, 0⟩)
abbrev s__wall : Stmt := topS 0
abbrev n__wall : List Str := ["k"]
theorem sc__wall : FnScope n__wall ["k"] (defScope s__wall) := ⟨rfl, rfl, rfl, by decide +kernel, rfl, by decide +kernel, by decide +kernel⟩
abbrev s_is_integer : Stmt := topS 2
abbrev n_is_integer : List Str := ["thing"]
theorem sc_is_integer : FnScope n_is_integer ["thing"] (defScope s_is_integer) := ⟨rfl, rfl, rfl, by decide +kernel, rfl, by decide +kernel, by decide +kernel⟩
abbrev s_is_list : Stmt := topS 3
abbrev n_is_list : List Str := ["thing"]
theorem sc_is_list : FnScope n_is_list ["thing"] (defScope s_is_list) := ⟨rfl, rfl, rfl, by decide +kernel, rfl, by decide +kernel, by decide +kernel⟩
abbrev s_first_odd : Stmt := topS 4
abbrev n_first_odd : List Str := ["things", "index", "thing"]
theorem sc_first_odd : FnScope n_first_odd ["things"] (defScope s_first_odd) := ⟨rfl, rfl, rfl, by decide +kernel, rfl, by decide +kernel, by decide +kernel⟩
abbrev s_lowest : Stmt := topS 5
abbrev n_lowest : List Str := ["top", "bottom", "one", "other"]
theorem sc_lowest : FnScope n_lowest ["top", "bottom"] (defScope s_lowest) := ⟨rfl, rfl, rfl, by decide +kernel, rfl, by decide +kernel, by decide +kernel⟩
abbrev s_BadPrime___init__ : Stmt := inClass (topS 8) 0
abbrev s_BadNumber___init__ : Stmt := inClass (topS 9) 0
abbrev s_BadNumbers___init__ : Stmt := inClass (topS 10) 0
abbrev s_UnlikePrimes___init__ : Stmt := inClass (topS 11) 0
abbrev s_BadCoin___init__ : Stmt := inClass (topS 12) 0
abbrev s_BadDegree___init__ : Stmt := inClass (topS 13) 0
abbrev s_NoPoly___init__ : Stmt := inClass (topS 14) 0
abbrev s_check_prime : Stmt := topS 17
abbrev n_check_prime : List Str := ["prime", "part"]
theorem sc_check_prime : FnScope n_check_prime ["prime"] (defScope s_check_prime) := ⟨rfl, rfl, rfl, by decide +kernel, rfl, by decide +kernel, by decide +kernel⟩
abbrev s_check_number : Stmt := topS 18
abbrev n_check_number : List Str := ["number"]
theorem sc_check_number : FnScope n_check_number ["number"] (defScope s_check_number) := ⟨rfl, rfl, rfl, by decide +kernel, rfl, by decide +kernel, by decide +kernel⟩
abbrev s_turned : Stmt := topS 19
abbrev n_turned : List Str := ["prime", "number", "other"]
theorem sc_turned : FnScope n_turned ["prime", "number"] (defScope s_turned) := ⟨rfl, rfl, rfl, by decide +kernel, rfl, by decide +kernel, by decide +kernel⟩
abbrev s_is_coin : Stmt := topS 21
abbrev n_is_coin : List Str := ["thing"]
theorem sc_is_coin : FnScope n_is_coin ["thing"] (defScope s_is_coin) := ⟨rfl, rfl, rfl, by decide +kernel, rfl, by decide +kernel, by decide +kernel⟩
abbrev s_first_bad_coin : Stmt := topS 22
abbrev n_first_bad_coin : List Str := ["prime", "thing", "numbers", "index", "coin"]
theorem sc_first_bad_coin : FnScope n_first_bad_coin ["prime", "thing"] (defScope s_first_bad_coin) := ⟨rfl, rfl, rfl, by decide +kernel, rfl, by decide +kernel, by decide +kernel⟩
abbrev s_check_coins : Stmt := topS 23
abbrev n_check_coins : List Str := ["prime", "thing", "index"]
theorem sc_check_coins : FnScope n_check_coins ["prime", "thing"] (defScope s_check_coins) := ⟨rfl, rfl, rfl, by decide +kernel, rfl, by decide +kernel, by decide +kernel⟩
abbrev s_check_like : Stmt := topS 25
abbrev n_check_like : List Str := ["one", "other"]
theorem sc_check_like : FnScope n_check_like ["one", "other"] (defScope s_check_like) := ⟨rfl, rfl, rfl, by decide +kernel, rfl, by decide +kernel, by decide +kernel⟩
abbrev s_worth_at : Stmt := topS 26
abbrev n_worth_at : List Str := ["row", "number", "prime", "found", "one"]
theorem sc_worth_at : FnScope n_worth_at ["row", "number", "prime"] (defScope s_worth_at) := ⟨rfl, rfl, rfl, by decide +kernel, rfl, by decide +kernel, by decide +kernel⟩
abbrev s_folded_at : Stmt := topS 27
abbrev n_folded_at : List Str := ["one", "other", "place", "spot", "number"]
theorem sc_folded_at : FnScope n_folded_at ["one", "other", "place"] (defScope s_folded_at) := ⟨rfl, rfl, rfl, by decide +kernel, rfl, by decide +kernel, by decide +kernel⟩
abbrev s_Poly___init__ : Stmt := inClass (topS 28) 0
abbrev n_Poly___init__ : List Str := ["self", "prime", "numbers", "odd", "row", "one"]
theorem sc_Poly___init__ : FnScope n_Poly___init__ ["self", "prime", "numbers"] (defScope s_Poly___init__) := ⟨rfl, rfl, rfl, by decide +kernel, rfl, by decide +kernel, by decide +kernel⟩
abbrev s_Poly_numbers : Stmt := inClass (topS 28) 1
abbrev n_Poly_numbers : List Str := ["self"]
theorem sc_Poly_numbers : FnScope n_Poly_numbers ["self"] (defScope s_Poly_numbers) := ⟨rfl, rfl, rfl, by decide +kernel, rfl, by decide +kernel, by decide +kernel⟩
abbrev s_Poly_degree : Stmt := inClass (topS 28) 2
abbrev n_Poly_degree : List Str := ["self"]
theorem sc_Poly_degree : FnScope n_Poly_degree ["self"] (defScope s_Poly_degree) := ⟨rfl, rfl, rfl, by decide +kernel, rfl, by decide +kernel, by decide +kernel⟩
abbrev s_Poly_at : Stmt := inClass (topS 28) 3
abbrev n_Poly_at : List Str := ["self", "number"]
theorem sc_Poly_at : FnScope n_Poly_at ["self", "number"] (defScope s_Poly_at) := ⟨rfl, rfl, rfl, by decide +kernel, rfl, by decide +kernel, by decide +kernel⟩
abbrev s_Poly___eq__ : Stmt := inClass (topS 28) 4
abbrev n_Poly___eq__ : List Str := ["self", "other"]
theorem sc_Poly___eq__ : FnScope n_Poly___eq__ ["self", "other"] (defScope s_Poly___eq__) := ⟨rfl, rfl, rfl, by decide +kernel, rfl, by decide +kernel, by decide +kernel⟩
abbrev s_Poly___add__ : Stmt := inClass (topS 28) 5
abbrev n_Poly___add__ : List Str := ["self", "other", "size", "one", "two", "x", "y"]
theorem sc_Poly___add__ : FnScope n_Poly___add__ ["self", "other"] (defScope s_Poly___add__) := ⟨rfl, rfl, rfl, by decide +kernel, rfl, by decide +kernel, by decide +kernel⟩
abbrev s_Poly___sub__ : Stmt := inClass (topS 28) 6
abbrev n_Poly___sub__ : List Str := ["self", "other", "size", "one", "two", "x", "y"]
theorem sc_Poly___sub__ : FnScope n_Poly___sub__ ["self", "other"] (defScope s_Poly___sub__) := ⟨rfl, rfl, rfl, by decide +kernel, rfl, by decide +kernel, by decide +kernel⟩
abbrev s_Poly___mul__ : Stmt := inClass (topS 28) 7
abbrev n_Poly___mul__ : List Str := ["self", "other", "size", "place"]
theorem sc_Poly___mul__ : FnScope n_Poly___mul__ ["self", "other"] (defScope s_Poly___mul__) := ⟨rfl, rfl, rfl, by decide +kernel, rfl, by decide +kernel, by decide +kernel⟩
abbrev s_Poly_parted : Stmt := inClass (topS 28) 8
abbrev n_Poly_parted : List Str := ["self", "other"]
theorem sc_Poly_parted : FnScope n_Poly_parted ["self", "other"] (defScope s_Poly_parted) := ⟨rfl, rfl, rfl, by decide +kernel, rfl, by decide +kernel, by decide +kernel⟩
abbrev s_Poly_roots : Stmt := inClass (topS 28) 9
abbrev n_Poly_roots : List Str := ["self"]
theorem sc_Poly_roots : FnScope n_Poly_roots ["self"] (defScope s_Poly_roots) := ⟨rfl, rfl, rfl, by decide +kernel, rfl, by decide +kernel, by decide +kernel⟩
abbrev s_rooted : Stmt := topS 29
abbrev n_rooted : List Str := ["prime", "numbers", "odd", "found", "number"]
theorem sc_rooted : FnScope n_rooted ["prime", "numbers"] (defScope s_rooted) := ⟨rfl, rfl, rfl, by decide +kernel, rfl, by decide +kernel, by decide +kernel⟩
abbrev s_is_shut : Stmt := topS 31
abbrev n_is_shut : List Str := ["prime", "numbers", "base"]
theorem sc_is_shut : FnScope n_is_shut ["prime", "numbers"] (defScope s_is_shut) := ⟨rfl, rfl, rfl, by decide +kernel, rfl, by decide +kernel, by decide +kernel⟩
abbrev s_best_set : Stmt := topS 32
abbrev n_best_set : List Str := ["prime", "degree", "coins", "rows", "both", "chosen", "row", "number", "weight"]
theorem sc_best_set : FnScope n_best_set ["prime", "degree", "coins"] (defScope s_best_set) := ⟨rfl, rfl, rfl, by decide +kernel, rfl, by decide +kernel, by decide +kernel⟩
abbrev s_check_all : Stmt := topS 33
abbrev n_check_all : List Str := ["prime", "degree", "coins"]
theorem sc_check_all : FnScope n_check_all ["prime", "degree", "coins"] (defScope s_check_all) := ⟨rfl, rfl, rfl, by decide +kernel, rfl, by decide +kernel, by decide +kernel⟩
abbrev s_heaviest : Stmt := topS 34
abbrev n_heaviest : List Str := ["prime", "degree", "coins", "best", "number", "weight"]
theorem sc_heaviest : FnScope n_heaviest ["prime", "degree", "coins"] (defScope s_heaviest) := ⟨rfl, rfl, rfl, by decide +kernel, rfl, by decide +kernel, by decide +kernel⟩
abbrev s_wrong : Stmt := topS 35
abbrev n_wrong : List Str := ["prime", "degree", "coins", "far", "best", "base", "row", "low", "high", "found", "part"]
theorem sc_wrong : FnScope n_wrong ["prime", "degree", "coins", "far"] (defScope s_wrong) := ⟨rfl, rfl, rfl, by decide +kernel, rfl, by decide +kernel, by decide +kernel⟩
abbrev s__law_w_worth : Stmt := topS 37
abbrev n__law_w_worth : List Str := ["_law_row", "_law_number", "_law_prime", "_law_one", "_law_found", "_law_factor"]
theorem sc__law_w_worth : FnScope n__law_w_worth ["_law_row", "_law_number", "_law_prime"] (defScope s__law_w_worth) := ⟨rfl, rfl, rfl, by decide +kernel, rfl, by decide +kernel, by decide +kernel⟩
abbrev s__law_w_rows : Stmt := topS 38
abbrev n__law_w_rows : List Str := ["_law_prime", "_law_size", "_law_found", "_law_turn", "_law_longer", "_law_row", "_law_number"]
theorem sc__law_w_rows : FnScope n__law_w_rows ["_law_prime", "_law_size"] (defScope s__law_w_rows) := ⟨rfl, rfl, rfl, by decide +kernel, rfl, by decide +kernel, by decide +kernel⟩
abbrev s__law_w_lot : Stmt := topS 39
abbrev n__law_w_lot : List Str := ["_law_stream", "_law_prime", "_law_many", "_law_found", "_law_number"]
theorem sc__law_w_lot : FnScope n__law_w_lot ["_law_stream", "_law_prime", "_law_many"] (defScope s__law_w_lot) := ⟨rfl, rfl, rfl, by decide +kernel, rfl, by decide +kernel, by decide +kernel⟩
abbrev s__law_w_coins : Stmt := topS 40
abbrev n__law_w_coins : List Str := ["_law_stream", "_law_prime", "_law_most"]
theorem sc__law_w_coins : FnScope n__law_w_coins ["_law_stream", "_law_prime", "_law_most"] (defScope s__law_w_coins) := ⟨rfl, rfl, rfl, by decide +kernel, rfl, by decide +kernel, by decide +kernel⟩
abbrev s__law_w_lowest : Stmt := topS 41
abbrev n__law_w_lowest : List Str := ["_law_top", "_law_bottom", "_law_one", "_law_other"]
theorem sc__law_w_lowest : FnScope n__law_w_lowest ["_law_top", "_law_bottom"] (defScope s__law_w_lowest) := ⟨rfl, rfl, rfl, by decide +kernel, rfl, by decide +kernel, by decide +kernel⟩
abbrev s__law_w_best_worth : Stmt := topS 42
abbrev n__law_w_best_worth : List Str := ["_law_prime", "_law_degree", "_law_coins", "_law_found", "_law_row", "_law_here", "_law_number", "_law_weight_here"]
theorem sc__law_w_best_worth : FnScope n__law_w_best_worth ["_law_prime", "_law_degree", "_law_coins"] (defScope s__law_w_best_worth) := ⟨rfl, rfl, rfl, by decide +kernel, rfl, by decide +kernel, by decide +kernel⟩
abbrev s__law_start : Stmt := topS 43
abbrev n__law_start : List Str := ["_law_script"]
theorem sc__law_start : FnScope n__law_start ["_law_script"] (defScope s__law_start) := ⟨rfl, rfl, rfl, by decide +kernel, rfl, by decide +kernel, by decide +kernel⟩
abbrev s__law_draw : Stmt := topS 44
abbrev n__law_draw : List Str := ["_law_stream", "_law_many", "_law_mixed_here", "_law_cell", "_law_digit"]
theorem sc__law_draw : FnScope n__law_draw ["_law_stream", "_law_many"] (defScope s__law_draw) := ⟨rfl, rfl, rfl, by decide +kernel, rfl, by decide +kernel, by decide +kernel⟩
abbrev s__law_pick : Stmt := topS 45
abbrev n__law_pick : List Str := ["_law_stream", "_law_some"]
theorem sc__law_pick : FnScope n__law_pick ["_law_stream", "_law_some"] (defScope s__law_pick) := ⟨rfl, rfl, rfl, by decide +kernel, rfl, by decide +kernel, by decide +kernel⟩
abbrev s__law_mixed : Stmt := topS 46
abbrev n__law_mixed : List Str := ["_law_stream", "_law_some", "_law_left", "_law_k"]
theorem sc__law_mixed : FnScope n__law_mixed ["_law_stream", "_law_some"] (defScope s__law_mixed) := ⟨rfl, rfl, rfl, by decide +kernel, rfl, by decide +kernel, by decide +kernel⟩
abbrev s__law_same : Stmt := topS 47
abbrev n__law_same : List Str := ["_law_found", "_law_due", "_law_x", "_law_y"]
theorem sc__law_same : FnScope n__law_same ["_law_found", "_law_due"] (defScope s__law_same) := ⟨rfl, rfl, rfl, by decide +kernel, rfl, by decide +kernel, by decide +kernel⟩
abbrev s__law_frozen : Stmt := topS 48
abbrev n__law_frozen : List Str := ["_law_thing", "_law_key", "_law_part"]
theorem sc__law_frozen : FnScope n__law_frozen ["_law_thing"] (defScope s__law_frozen) := ⟨rfl, rfl, rfl, by decide +kernel, rfl, by decide +kernel, by decide +kernel⟩
abbrev s__law_tried : Stmt := topS 49
abbrev n__law_tried : List Str := ["_law_ask", "_law_found"]
theorem sc__law_tried : FnScope n__law_tried ["_law_ask"] (defScope s__law_tried) := ⟨rfl, rfl, rfl, by decide +kernel, rfl, by decide +kernel, by decide +kernel⟩
abbrev s__law_weight : Stmt := topS 50
abbrev n__law_weight : List Str := ["_law_coins", "_law_numbers", "_law_prime", "_law_number", "_law_weight_here"]
theorem sc__law_weight : FnScope n__law_weight ["_law_coins", "_law_numbers", "_law_prime"] (defScope s__law_weight) := ⟨rfl, rfl, rfl, by decide +kernel, rfl, by decide +kernel, by decide +kernel⟩
abbrev s__law_is_zero : Stmt := topS 51
abbrev n__law_is_zero : List Str := ["_law_prime", "_law_degree", "_law_numbers", "_law_row", "_law_number"]
theorem sc__law_is_zero : FnScope n__law_is_zero ["_law_prime", "_law_degree", "_law_numbers"] (defScope s__law_is_zero) := ⟨rfl, rfl, rfl, by decide +kernel, rfl, by decide +kernel, by decide +kernel⟩
abbrev s__law_row_right : Stmt := topS 52
abbrev n__law_row_right : List Str := ["_law_prime", "_law_degree", "_law_coins", "_law_far", "_law_row", "_law_due", "_law_zeros", "_law_both", "_law_number", "_law_one"]
theorem sc__law_row_right : FnScope n__law_row_right ["_law_prime", "_law_degree", "_law_coins", "_law_far", "_law_row", "_law_due"] (defScope s__law_row_right) := ⟨rfl, rfl, rfl, by decide +kernel, rfl, by decide +kernel, by decide +kernel⟩
abbrev s_law : Stmt := topS 53
abbrev n_law : List Str := ["_law_script", "_law_stream", "_law_turn", "_law_degree", "_law_far", "_law_handed", "_law_told", "_law_prime", "_law_coins", "_law_due", "_law_whole", "_law_row", "_law_kept", "_law_share", "_law_numbers", "_law_number", "_law_weight_here", "_law_coin", "_law_one"]
theorem sc_law : FnScope n_law ["_law_script"] (defScope s_law) := ⟨rfl, rfl, rfl, by decide +kernel, rfl, by decide +kernel, by decide +kernel⟩
/-- where the top has written it -/
structure Ad where
  TalkError : Addr
  BadPrime : Addr
  BadNumber : Addr
  BadNumbers : Addr
  UnlikePrimes : Addr
  BadCoin : Addr
  BadDegree : Addr
  NoPoly : Addr
  Poly : Addr
  cL : Addr
  tL : Addr
/-- what the top has written -/
structure Tx (P : Program) (K : PySem.W.Frag) (mg : Str → Option Value) (A : Ad) : Prop where
  x_BadPrime : ∃ fI, DX.Txt P K mg "BadPrime" A.BadPrime fI ["prime"]
  x_BadNumber : ∃ fI, DX.Txt P K mg "BadNumber" A.BadNumber fI ["number"]
  x_BadCoin : ∃ fI, DX.Txt P K mg "BadCoin" A.BadCoin fI ["index"]
  x_UnlikePrimes : ∃ fI, DX.Txt P K mg "UnlikePrimes" A.UnlikePrimes fI []
  x_BadNumbers : ∃ fI, DX.Txt P K mg "BadNumbers" A.BadNumbers fI ["index"]
  x_BadDegree : ∃ fI, DX.Txt P K mg "BadDegree" A.BadDegree fI ["number"]
  x_NoPoly : ∃ fI, DX.Txt P K mg "NoPoly" A.NoPoly fI []
  e_BadPrime_NoPoly : PySem.W.exmOne K (.ref A.BadPrime) (.ref A.NoPoly) = some false
  e_BadNumber_NoPoly : PySem.W.exmOne K (.ref A.BadNumber) (.ref A.NoPoly) = some false
  e_BadCoin_NoPoly : PySem.W.exmOne K (.ref A.BadCoin) (.ref A.NoPoly) = some false
  e_UnlikePrimes_NoPoly : PySem.W.exmOne K (.ref A.UnlikePrimes) (.ref A.NoPoly) = some false
  e_BadNumbers_NoPoly : PySem.W.exmOne K (.ref A.BadNumbers) (.ref A.NoPoly) = some false
  e_BadDegree_NoPoly : PySem.W.exmOne K (.ref A.BadDegree) (.ref A.NoPoly) = some false
  e_NoPoly_NoPoly : PySem.W.exmOne K (.ref A.NoPoly) (.ref A.NoPoly) = some true
  m_Poly : mg "Poly" = some (.ref A.Poly)
  k_Poly : CK K A.Poly
  ne_Poly : NeC K A.Poly
  n_Poly_prime : Cls K A.Poly ∧ NoAttr K A.Poly "prime"
  n_Poly_row : Cls K A.Poly ∧ NoAttr K A.Poly "row"
  i_Poly : ∃ (f : Addr) (fd : FuncData), Mk K A.Poly f ∧ Fun K "__init__" "Poly.__init__" s_Poly___init__ f fd ∧ Binds K fd ["self", "prime", "numbers"] []
  t_Poly_numbers : ∃ (f : Addr) (fd : FuncData), Cls K A.Poly ∧ Meth K A.Poly "numbers" f ∧ Fun K "numbers" "Poly.numbers" s_Poly_numbers f fd ∧ Binds K fd ["self"] []
  t_Poly_degree : ∃ (f : Addr) (fd : FuncData), Cls K A.Poly ∧ Meth K A.Poly "degree" f ∧ Fun K "degree" "Poly.degree" s_Poly_degree f fd ∧ Binds K fd ["self"] []
  t_Poly_at : ∃ (f : Addr) (fd : FuncData), Cls K A.Poly ∧ Meth K A.Poly "at" f ∧ Fun K "at" "Poly.at" s_Poly_at f fd ∧ Binds K fd ["self", "number"] []
  t_Poly___eq__ : ∃ (f : Addr) (fd : FuncData), Cls K A.Poly ∧ Meth K A.Poly "__eq__" f ∧ Fun K "__eq__" "Poly.__eq__" s_Poly___eq__ f fd ∧ Binds K fd ["self", "other"] []
  t_Poly___add__ : ∃ (f : Addr) (fd : FuncData), Cls K A.Poly ∧ Meth K A.Poly "__add__" f ∧ Fun K "__add__" "Poly.__add__" s_Poly___add__ f fd ∧ Binds K fd ["self", "other"] []
  t_Poly___sub__ : ∃ (f : Addr) (fd : FuncData), Cls K A.Poly ∧ Meth K A.Poly "__sub__" f ∧ Fun K "__sub__" "Poly.__sub__" s_Poly___sub__ f fd ∧ Binds K fd ["self", "other"] []
  t_Poly___mul__ : ∃ (f : Addr) (fd : FuncData), Cls K A.Poly ∧ Meth K A.Poly "__mul__" f ∧ Fun K "__mul__" "Poly.__mul__" s_Poly___mul__ f fd ∧ Binds K fd ["self", "other"] []
  t_Poly_parted : ∃ (f : Addr) (fd : FuncData), Cls K A.Poly ∧ Meth K A.Poly "parted" f ∧ Fun K "parted" "Poly.parted" s_Poly_parted f fd ∧ Binds K fd ["self", "other"] []
  t_Poly_roots : ∃ (f : Addr) (fd : FuncData), Cls K A.Poly ∧ Meth K A.Poly "roots" f ∧ Fun K "roots" "Poly.roots" s_Poly_roots f fd ∧ Binds K fd ["self"] []
  f__wall : ∃ (a : Addr) (fd : FuncData), Fun K "_wall" "_wall" s__wall a fd ∧ mg "_wall" = some (.ref a) ∧ Binds K fd ["k"] []
  f_is_integer : ∃ (a : Addr) (fd : FuncData), Fun K "is_integer" "is_integer" s_is_integer a fd ∧ mg "is_integer" = some (.ref a) ∧ Binds K fd ["thing"] []
  f_is_list : ∃ (a : Addr) (fd : FuncData), Fun K "is_list" "is_list" s_is_list a fd ∧ mg "is_list" = some (.ref a) ∧ Binds K fd ["thing"] []
  f_first_odd : ∃ (a : Addr) (fd : FuncData), Fun K "first_odd" "first_odd" s_first_odd a fd ∧ mg "first_odd" = some (.ref a) ∧ Binds K fd ["things"] []
  f_lowest : ∃ (a : Addr) (fd : FuncData), Fun K "lowest" "lowest" s_lowest a fd ∧ mg "lowest" = some (.ref a) ∧ Binds K fd ["top", "bottom"] []
  f_check_prime : ∃ (a : Addr) (fd : FuncData), Fun K "check_prime" "check_prime" s_check_prime a fd ∧ mg "check_prime" = some (.ref a) ∧ Binds K fd ["prime"] []
  f_check_number : ∃ (a : Addr) (fd : FuncData), Fun K "check_number" "check_number" s_check_number a fd ∧ mg "check_number" = some (.ref a) ∧ Binds K fd ["number"] []
  f_turned : ∃ (a : Addr) (fd : FuncData), Fun K "turned" "turned" s_turned a fd ∧ mg "turned" = some (.ref a) ∧ Binds K fd ["prime", "number"] []
  f_is_coin : ∃ (a : Addr) (fd : FuncData), Fun K "is_coin" "is_coin" s_is_coin a fd ∧ mg "is_coin" = some (.ref a) ∧ Binds K fd ["thing"] []
  f_first_bad_coin : ∃ (a : Addr) (fd : FuncData), Fun K "first_bad_coin" "first_bad_coin" s_first_bad_coin a fd ∧ mg "first_bad_coin" = some (.ref a) ∧ Binds K fd ["prime", "thing"] []
  f_check_coins : ∃ (a : Addr) (fd : FuncData), Fun K "check_coins" "check_coins" s_check_coins a fd ∧ mg "check_coins" = some (.ref a) ∧ Binds K fd ["prime", "thing"] []
  f_check_like : ∃ (a : Addr) (fd : FuncData), Fun K "check_like" "check_like" s_check_like a fd ∧ mg "check_like" = some (.ref a) ∧ Binds K fd ["one", "other"] []
  f_worth_at : ∃ (a : Addr) (fd : FuncData), Fun K "worth_at" "worth_at" s_worth_at a fd ∧ mg "worth_at" = some (.ref a) ∧ Binds K fd ["row", "number", "prime"] []
  f_folded_at : ∃ (a : Addr) (fd : FuncData), Fun K "folded_at" "folded_at" s_folded_at a fd ∧ mg "folded_at" = some (.ref a) ∧ Binds K fd ["one", "other", "place"] []
  f_rooted : ∃ (a : Addr) (fd : FuncData), Fun K "rooted" "rooted" s_rooted a fd ∧ mg "rooted" = some (.ref a) ∧ Binds K fd ["prime", "numbers"] []
  f_is_shut : ∃ (a : Addr) (fd : FuncData), Fun K "is_shut" "is_shut" s_is_shut a fd ∧ mg "is_shut" = some (.ref a) ∧ Binds K fd ["prime", "numbers"] []
  f_best_set : ∃ (a : Addr) (fd : FuncData), Fun K "best_set" "best_set" s_best_set a fd ∧ mg "best_set" = some (.ref a) ∧ Binds K fd ["prime", "degree", "coins"] []
  f_check_all : ∃ (a : Addr) (fd : FuncData), Fun K "check_all" "check_all" s_check_all a fd ∧ mg "check_all" = some (.ref a) ∧ Binds K fd ["prime", "degree", "coins"] []
  f_heaviest : ∃ (a : Addr) (fd : FuncData), Fun K "heaviest" "heaviest" s_heaviest a fd ∧ mg "heaviest" = some (.ref a) ∧ Binds K fd ["prime", "degree", "coins"] []
  f_wrong : ∃ (a : Addr) (fd : FuncData), Fun K "wrong" "wrong" s_wrong a fd ∧ mg "wrong" = some (.ref a) ∧ Binds K fd ["prime", "degree", "coins", "far"] []
  f__law_w_worth : ∃ (a : Addr) (fd : FuncData), Fun K "_law_w_worth" "_law_w_worth" s__law_w_worth a fd ∧ mg "_law_w_worth" = some (.ref a) ∧ Binds K fd ["_law_row", "_law_number", "_law_prime"] []
  f__law_w_rows : ∃ (a : Addr) (fd : FuncData), Fun K "_law_w_rows" "_law_w_rows" s__law_w_rows a fd ∧ mg "_law_w_rows" = some (.ref a) ∧ Binds K fd ["_law_prime", "_law_size"] []
  f__law_w_lot : ∃ (a : Addr) (fd : FuncData), Fun K "_law_w_lot" "_law_w_lot" s__law_w_lot a fd ∧ mg "_law_w_lot" = some (.ref a) ∧ Binds K fd ["_law_stream", "_law_prime", "_law_many"] []
  f__law_w_coins : ∃ (a : Addr) (fd : FuncData), Fun K "_law_w_coins" "_law_w_coins" s__law_w_coins a fd ∧ mg "_law_w_coins" = some (.ref a) ∧ Binds K fd ["_law_stream", "_law_prime", "_law_most"] []
  f__law_w_lowest : ∃ (a : Addr) (fd : FuncData), Fun K "_law_w_lowest" "_law_w_lowest" s__law_w_lowest a fd ∧ mg "_law_w_lowest" = some (.ref a) ∧ Binds K fd ["_law_top", "_law_bottom"] []
  f__law_w_best_worth : ∃ (a : Addr) (fd : FuncData), Fun K "_law_w_best_worth" "_law_w_best_worth" s__law_w_best_worth a fd ∧ mg "_law_w_best_worth" = some (.ref a) ∧ Binds K fd ["_law_prime", "_law_degree", "_law_coins"] []
  f__law_start : ∃ (a : Addr) (fd : FuncData), Fun K "_law_start" "_law_start" s__law_start a fd ∧ mg "_law_start" = some (.ref a) ∧ Binds K fd ["_law_script"] []
  f__law_draw : ∃ (a : Addr) (fd : FuncData), Fun K "_law_draw" "_law_draw" s__law_draw a fd ∧ mg "_law_draw" = some (.ref a) ∧ Binds K fd ["_law_stream", "_law_many"] []
  f__law_pick : ∃ (a : Addr) (fd : FuncData), Fun K "_law_pick" "_law_pick" s__law_pick a fd ∧ mg "_law_pick" = some (.ref a) ∧ Binds K fd ["_law_stream", "_law_some"] []
  f__law_mixed : ∃ (a : Addr) (fd : FuncData), Fun K "_law_mixed" "_law_mixed" s__law_mixed a fd ∧ mg "_law_mixed" = some (.ref a) ∧ Binds K fd ["_law_stream", "_law_some"] []
  f__law_same : ∃ (a : Addr) (fd : FuncData), Fun K "_law_same" "_law_same" s__law_same a fd ∧ mg "_law_same" = some (.ref a) ∧ Binds K fd ["_law_found", "_law_due"] []
  f__law_frozen : ∃ (a : Addr) (fd : FuncData), Fun K "_law_frozen" "_law_frozen" s__law_frozen a fd ∧ mg "_law_frozen" = some (.ref a) ∧ Binds K fd ["_law_thing"] []
  f__law_tried : ∃ (a : Addr) (fd : FuncData), Fun K "_law_tried" "_law_tried" s__law_tried a fd ∧ mg "_law_tried" = some (.ref a) ∧ Binds K fd ["_law_ask"] []
  f__law_weight : ∃ (a : Addr) (fd : FuncData), Fun K "_law_weight" "_law_weight" s__law_weight a fd ∧ mg "_law_weight" = some (.ref a) ∧ Binds K fd ["_law_coins", "_law_numbers", "_law_prime"] []
  f__law_is_zero : ∃ (a : Addr) (fd : FuncData), Fun K "_law_is_zero" "_law_is_zero" s__law_is_zero a fd ∧ mg "_law_is_zero" = some (.ref a) ∧ Binds K fd ["_law_prime", "_law_degree", "_law_numbers"] []
  f__law_row_right : ∃ (a : Addr) (fd : FuncData), Fun K "_law_row_right" "_law_row_right" s__law_row_right a fd ∧ mg "_law_row_right" = some (.ref a) ∧ Binds K fd ["_law_prime", "_law_degree", "_law_coins", "_law_far", "_law_row", "_law_due"] []
  f_law : ∃ (a : Addr) (fd : FuncData), Fun K "law" "law" s_law a fd ∧ mg "law" = some (.ref a) ∧ Binds K fd ["_law_script"] []
  z_abs : mg "abs" = none
  z_all : mg "all" = none
  z_any : mg "any" = none
  z_bool : mg "bool" = none
  z_dict : mg "dict" = none
  z_enumerate : mg "enumerate" = none
  z_int : mg "int" = none
  z_isinstance : mg "isinstance" = none
  z_len : mg "len" = none
  z_list : mg "list" = none
  z_max : mg "max" = none
  z_range : mg "range" = none
  z_set : mg "set" = none
  z_sorted : mg "sorted" = none
  z_sum : mg "sum" = none
  z_tuple : mg "tuple" = none
  z_zip : mg "zip" = none
  v_MOST_PRIME : ∃ u, mg "MOST_PRIME" = some u ∧ RelV (.int 101) u
  c_law : ∀ (a : Addr) (oc : Value) (od : Option Addr) (fd : FuncData) (osl : Array (Option Value)) (cc : Addr), mg "law" = some (.ref a) → K.lookup a = some ⟨oc, od, .func fd, osl⟩ → fd.code = .ref cc → cc = A.cL
section
variable {P : Program} {w : World} {K : PySem.W.Frag} {mg : Str → Option Value} {base : Heap} {A : Ad}
local macro_rules | `(tactic| walk_at "s0") => `(tactic| with_reducible first
  | refine ws_seq ?_ | refine ws_next ?_ | refine ws_ret ?_ | refine ws_retN ?_ | refine ws_if ?_ | refine ws_asg ?_ | refine ws_drop ?_ | refine ws_par ?_ | refine ws_break ?_ | refine ws_cont ?_
  | refine we_var rfl ?_ | refine we_int ?_ | refine we_non ?_ | refine we_bl ?_ | refine we_str ?_ | refine we_ty ?_ | refine we_dnew ?_ | refine we_op ?_ | refine we_un ?_
  | refine we_and ?_ | refine we_or ?_ | refine we_not ?_ | refine we_if ?_ | refine we_chain ?_ | refine we_cb ?_ | refine we_tup ?_ | refine we_lst ?_
  | refine wl_cons ?_ | refine wl_nil ?_ | refine wt_B ?_ | refine wt_test ?_ | refine wt_and ?_ | refine wt_or ?_ | refine wt_not ?_ | refine wt_yes ?_
  | refine wi_tup ?_ | refine wi_list ?_ | refine wg_tup rfl ?_ | refine wgs_cons ?_ | refine wgs_nil ?_
  | refine rd_add_int ?_ | refine rd_sub ?_ | refine rd_lt ?_ | refine rd_le ?_ | refine rd_gt ?_ | refine rd_ge ?_ | refine rd_eq_int ?_ | refine rd_ne_int ?_ | refine rd_eq_str ?_ | refine rd_ne_str ?_ | refine rd_eq_bl ?_ | refine rd_ne_bl ?_ | refine rd_is ?_ | refine rd_is_bl ?_ | refine rd_isnot ?_ | refine ru_neg ?_
  | refine rc_int ?_ | refine rc_abs ?_ | refine rc_anyF ?_ | refine rc_allF ?_
  | refine brT ?_ | refine brF ?_ | refine brT' ?_ | refine brF' ?_
  | refine ⟨_, rfl, ?_⟩)
set_option hygiene false in
local macro_rules | `(tactic| walk_at "s1") => `(tactic| first
  | refine we_isiLT ?_ | refine we_isiILT ?_ | refine wi_seqV (by rfl) (by rfl) ?_ | walk_at "s0" | refine ⟨true, by rfl, ?_⟩ | refine ⟨false, by rfl, ?_⟩ | refine we_ref ?_ | refine we_fld1 ?_ | refine ⟨_, _, _, _, rfl, T.n_Poly_prime, by rfl, ?_⟩ | refine ⟨_, _, _, _, rfl, T.n_Poly_row, by rfl, ?_⟩ | refine rc_isiB (r := true) (by rfl) ?_ | refine rc_isiO T.k_Poly ?_ | refine rc_isiN T.k_Poly (by rfl) ?_ | refine we_callF (by assumption) ?_ | refine we_callF (X := fun _ _ _ _ => False) xok0 ?_ | refine we_callFl (by assumption) ?_ | refine we_callFl (X := fun _ _ _ _ => False) xok0 ?_ | refine we_makeFl (by assumption) ?_ | refine we_makeFl (X := fun _ _ _ _ => False) xok0 ?_ | refine we_makeF (by assumption) ?_ | refine we_makeF (X := fun _ _ _ _ => False) xok0 ?_ | refine DX.ws_rs (by assumption) ?_ | refine wt_test ?_ | refine co_ret rfl (by rfl) ?_ | refine wg_nm (by rfl) ?_ | refine parB (by rfl) (by rfl) ?_ | refine szB (by rfl) ?_ | refine szL (by rfl) ?_ | refine brT2 (by rfl) ?_ | refine brF2 (by rfl) ?_ | refine brT3 (by rfl) ?_ | refine brF3 (by rfl) ?_ | refine rc_isiB (r := false) (by rfl) ?_)
def isIntD : D → Bool
  | .int _ => true
  | _ => false
def gIsInt : List D → Option Out
  | [d] => if (tyN d).isSome then some (.ret (.bl (isIntD d))) else none
  | _ => none
theorem ok_is_integer (T : Tx P K mg A) : CalX P w K mg base 1 "is_integer" (SpS K 1 (spcF gIsInt)) := by
  obtain ⟨a, fd, F, m, bi⟩ := T.f_is_integer
  refine ⟨a, fd, _, fnS F sc_is_integer rfl (fun cdv A outer sh H E hr => ⟨_, (pss_one (ps_ret (pe_and (pe_callB (DK.isi (K := K)) (by rfl) T.z_isinstance (by decide +kernel) (pa_cons (pv 0) (pa_cons (pe_tyn (n := "int") (by rfl) T.z_int (by decide +kernel)) pa_nil))) (pe_one (pe_not (pe_callB (DK.isi (K := K)) (by rfl) T.z_isinstance (by decide +kernel) (pa_cons (pv 0) (pa_cons (pe_tyn (n := "bool") (by rfl) T.z_bool (by decide +kernel)) pa_nil)))))))), fun R k0 ds b hp hl hE => ?_⟩), m, F.kp, bi⟩
  obtain ⟨o, ho⟩ := hp
  obtain ⟨d, rfl⟩ : ∃ d, ds = [d] := by
    match ds, hl with
    | [d], _ => exact ⟨d, rfl⟩
  cases d <;> cases ho
  all_goals
    repeat (walk_at "s1")
    exact ⟨rfl, rfl⟩
def isPrm (p : Int) : Bool := decide (2 ≤ p) && (decide (p ≤ 101) && !([2, 3, 5, 7].any fun q => decide (q < p) && decide (p % q = 0)))
def ltI (p : Int) : D → Bool
  | .int q => decide (q < p)
  | _ => false
def modI (p : Int) : D → Bool
  | .int q => decide (p % q = 0)
  | _ => false
def gPrime (A : Ad) : List D → Option Out
  | [d] => if (tyN d).isSome then some (match d with | .int p => if isPrm p then .ret .non else .exc A.BadPrime ["prime"] [d] | _ => .exc A.BadPrime ["prime"] [d]) else none
  | _ => none
theorem ok_check_prime (T : Tx P K mg A) : CalX P w K mg base 2 "check_prime" (SpS K 1 (spcF (gPrime A))) := by
  have c_is_integer := @ok_is_integer P w K mg base A T
  obtain ⟨a, fd, F, m, bi⟩ := T.f_check_prime
  refine ⟨a, fd, _, fnS F sc_check_prime rfl (fun cdv A' outer sh H E hr => ⟨_, (pss_cons (ps_if (PW.pt (pw_or (pt_not (pt_val (pe_cx c_is_integer hr (by omega) (by rfl) (passes_call (takes_of rfl rfl rfl rfl) (fun _ _ _ _ z => z)) (pa_cons (pv 0) pa_nil)))) (pw_or1 (pt_not (pt_chain op_leK op_leK pe_int (pv 0) (C8.pe_gc (by rfl) T.v_MOST_PRIME))))))
  (pss_one (DX.ps_rs (takes_of rfl rfl rfl rfl) T.x_BadPrime (by decide) (by decide) hr (pa_cons (pv 0) pa_nil)))
  pss_nil)
  (pss_one (ps_if (pt_val (pe_callB (DK.any (K := K)) (by rfl) T.z_any (by decide +kernel) (pa_cons (pe_lc (own := [("part", 1)]) (g := (gName 1)) rfl sc_check_prime.nd (DK.pi_tup (K := K) (pe_tup (pa_cons pe_int (pa_cons pe_int (pa_cons pe_int (pa_cons pe_int pa_nil)))))) (blkOk_by (own := [("part", 1)]) (N := n_check_prime) (sc := (defScope s_check_prime)) (by first | decide +kernel | kernel_rfl)) (fun _ _ _ _ _ => (pg_name (i := 1) sc_check_prime.nd rfl (by first | exact .inl rfl | exact .inr rfl))) (fun _ _ _ _ _ => (pts_one (pt_cmpR op_ltK (pv 1) (pv 0) (nomark _)))) (fun _ _ _ _ _ => (pe_cmpR (DK.op_eq (K := K) (hr.units)) (pe_op op_modK (pv 0) (pv 1)) pe_int (nomark _)))) pa_nil)))
  (pss_one (DX.ps_rs (takes_of rfl rfl rfl rfl) T.x_BadPrime (by decide) (by decide) hr (pa_cons (pv 0) pa_nil)))
  pss_nil))), fun R k0 ds b hp hl hE => ?_⟩), m, F.kp, bi⟩
  obtain ⟨o, ho⟩ := hp
  obtain ⟨d, rfl⟩ : ∃ d, ds = [d] := by
    match ds, hl with
    | [d], _ => exact ⟨d, rfl⟩
  have hx := xok_def hE
  have hX := xokW hx
  have bad : ∀ {C : Addr} {ns : List Str} {fs : List D}, gPrime A [d] = some (.exc C ns fs) → (spcF (gPrime A)).exc R [d] b C ns fs b := fun e => ⟨e, rfl⟩
  cases d <;> cases ho
  case int p =>
    have nb : isPrm p = false → gPrime A [.int p] = some (.exc A.BadPrime ["prime"] [.int p]) := fun e => by simp [gPrime, tyN, e]
    have ok : isPrm p = true → gPrime A [.int p] = some (.ret .non) := fun e => by simp [gPrime, tyN, e]
    repeat (walk_at "s1")
    refine brD' (fun h1 => ?_) (fun h1 => ?_)
    · repeat (walk_at "s1")
      refine brN (fun h2 => ?_) (fun h2 => ?_)
      · repeat (walk_at "s1")
        exact ⟨rfl, bad (nb (by simp [isPrm, h2]))⟩
      · repeat (walk_at "s1")
        refine we_lcF (kg_name (by decide)) ?_
        repeat (walk_at "s1")
        refine ⟨ltI p, fun d => .bl (modI p d), szL (by rfl) ⟨fun d hd o acc => ?_, ?_⟩⟩
        · simp only [List.mem_cons, List.not_mem_nil, or_false] at hd
          rcases hd with rfl | rfl | rfl | rfl
          all_goals
            repeat (walk_at "s1")
            refine ⟨rfl, fun _ => ?_, fun _ => ⟨rfl, rfl⟩⟩
            repeat (walk_at "s1")
            refine rd_mod (by decide) ?_
            repeat (walk_at "s1")
            exact ⟨rfl, rfl, rfl⟩
        · repeat (walk_at "s1")
          refine br (fun e => ?_) (fun e => ?_)
          · repeat (walk_at "s1")
            refine ⟨rfl, bad (nb ?_)⟩
            simp [isPrm, ltI, modI] at e ⊢
            omega
          · repeat (walk_at "s1")
            exact ⟨ok (by simp [isPrm, h1, h2, ltI, modI] at e ⊢; omega), rfl⟩
    · repeat (walk_at "s1")
      exact ⟨rfl, bad (nb (by simp [isPrm, h1]))⟩
  all_goals
    repeat (walk_at "s1")
    exact ⟨rfl, bad rfl⟩
def gNum (A : Ad) : List D → Option Out
  | [d] => if (tyN d).isSome then some (match d with | .int _ => .ret .non | _ => .exc A.BadNumber ["number"] [d]) else none
  | _ => none
theorem ok_check_number (T : Tx P K mg A) : CalX P w K mg base 2 "check_number" (SpS K 1 (spcF (gNum A))) := by
  have c_is_integer := @ok_is_integer P w K mg base A T
  obtain ⟨a, fd, F, m, bi⟩ := T.f_check_number
  refine ⟨a, fd, _, fnS F sc_check_number rfl (fun cdv A' outer sh H E hr => ⟨_, (pss_one (ps_if (pt_not (pt_val (pe_cx c_is_integer hr (by omega) (by rfl) (passes_call (takes_of rfl rfl rfl rfl) (fun _ _ _ _ z => z)) (pa_cons (pv 0) pa_nil))))
  (pss_one (DX.ps_rs (takes_of rfl rfl rfl rfl) T.x_BadNumber (by decide) (by decide) hr (pa_cons (pv 0) pa_nil)))
  pss_nil)), fun R k0 ds b hp hl hE => ?_⟩), m, F.kp, bi⟩
  obtain ⟨o, ho⟩ := hp
  obtain ⟨d, rfl⟩ : ∃ d, ds = [d] := by
    match ds, hl with
    | [d], _ => exact ⟨d, rfl⟩
  have hx := xok_def hE
  have hX := xokW hx
  have bad : ∀ {C : Addr} {ns : List Str} {fs : List D}, gNum A [d] = some (.exc C ns fs) → (spcF (gNum A)).exc R [d] b C ns fs b := fun e => ⟨e, rfl⟩
  cases d <;> cases ho
  case int p =>
    repeat (walk_at "s1")
    exact ⟨rfl, rfl⟩
  all_goals
    repeat (walk_at "s1")
    exact ⟨rfl, bad rfl⟩
def isLst : D → Bool
  | .lst _ => true
  | .tup _ => true
  | _ => false
def gIsList : List D → Option Out
  | [d] => if (tyN d).isSome then some (.ret (.bl (isLst d))) else none
  | _ => none
theorem ok_is_list (T : Tx P K mg A) : CalX P w K mg base 1 "is_list" (spOr (SpS K 1 (spcF gIsList)) (SpR1 K fun _ => .bl true)) := by
  obtain ⟨a, fd, F, m, bi⟩ := T.f_is_list
  refine ⟨a, fd, _, fn_or (fnS F sc_is_list rfl (fun cdv A outer sh H E hr => ⟨_, (pss_one (ps_ret (pe_callB (DK.isiT (K := K)) (by rfl) T.z_isinstance (by decide +kernel) (pa_cons (pv 0) (pa_cons (pe_tup (pa_cons (pe_tyn (n := "list") (by rfl) T.z_list (by decide +kernel)) (pa_cons (pe_tyn (n := "tuple") (by rfl) T.z_tuple (by decide +kernel)) pa_nil))) pa_nil))))), fun R k0 ds b hp hl hE => ?_⟩))
    (fnR1 F sc_is_list rfl (fun cdv A outer sh H E hr => ⟨_, (pss_one (ps_ret (pe_callB (DK.isiT (K := K)) (by rfl) T.z_isinstance (by decide +kernel) (pa_cons (pv 0) (pa_cons (pe_tup (pa_cons (pe_tyn (n := "list") (by rfl) T.z_list (by decide +kernel)) (pa_cons (pe_tyn (n := "tuple") (by rfl) T.z_tuple (by decide +kernel)) pa_nil))) pa_nil))))), fun k0 o xs r hl => ?_⟩)), m, F.kp, bi⟩
  · obtain ⟨o, ho⟩ := hp
    obtain ⟨d, rfl⟩ : ∃ d, ds = [d] := by
      match ds, hl with
      | [d], _ => exact ⟨d, rfl⟩
    cases d <;> cases ho
    all_goals
      repeat (walk_at "s1")
      exact ⟨rfl, rfl⟩
  · refine ws_ret (we_isiR (we_var rfl ⟨o, xs, rfl, r, rfl⟩))
/-- the first place where no int stands -/
def oddI : List D → Nat → Option Nat
  | [], _ => none
  | d :: l, i => if isIntD d = true then oddI l (i + 1) else some i
def oddO (o : Option Nat) : D := match o with
  | none => .non
  | some i => .int (i : Nat)
def typed (l : List D) : Bool := l.all fun d => (tyN d).isSome
def oddD : D → D
  | .lst l => oddO (oddI l 0)
  | .tup l => oddO (oddI l 0)
  | _ => .int 0
def okO : D → Bool
  | .lst l => decide (l.length ≤ 1000) && typed l
  | .tup l => decide (l.length ≤ 1000) && typed l
  | d => (tyN d).isSome
def gOdd : List D → Option Out
  | [d] => if okO d = true then some (.ret (oddD d)) else none
  | _ => none
theorem oddI_step {l : List D} {i : Nat} {d : D} (h : l[i]? = some d) : oddI (l.drop i) i = if isIntD d = true then oddI (l.drop (i + 1)) (i + 1) else some i := by
  have hl : i < l.length := (List.getElem?_eq_some_iff.mp h).1
  rw [List.drop_eq_getElem_cons hl]
  have e : l[i] = d := Option.some.inj (by rw [← List.getElem?_eq_getElem hl]; exact h)
  rw [e]
  rfl
theorem oddI_ints : ∀ (xs : List Int) (i : Nat), oddI (xs.map D.int) i = none
  | [], _ => rfl
  | x :: xs, i => by
    show (if isIntD (.int x) = true then oddI (xs.map D.int) (i + 1) else some i) = none
    exact (if_pos (show isIntD (.int x) = true from rfl)).trans (oddI_ints xs (i + 1))
theorem ints_of : ∀ {l : List D} {i : Nat}, oddI l i = none → ∃ xs : List Int, l = xs.map D.int
  | [], _, _ => ⟨[], rfl⟩
  | d :: l, i, h => by
    have h : (if isIntD d = true then oddI l (i + 1) else some i) = none := h
    by_cases hd : isIntD d = true
    · rw [if_pos hd] at h
      obtain ⟨xs, rfl⟩ := ints_of h
      cases d <;> first | (cases hd; done) | exact ⟨_ :: xs, rfl⟩
    · rw [if_neg hd] at h
      cases h
theorem ok_first_odd (T : Tx P K mg A) : CalX P w K mg base 2 "first_odd" (spOr (SpS K 1 (spcF gOdd)) (SpR1 K fun _ => .non)) := by
  have c_is_list := @ok_is_list P w K mg base A T
  have c_is_integer := @ok_is_integer P w K mg base A T
  obtain ⟨a, fd, F, m, bi⟩ := T.f_first_odd
  refine ⟨a, fd, _, fn_or (fnS F sc_first_odd rfl (fun cdv A outer sh H E hr => ⟨_, (pss_cons (ps_if (pt_not (pt_val (pe_cx c_is_list hr (by omega) (by rfl) (passes_call (takes_of rfl rfl rfl rfl) (fun _ _ _ _ z => z)) (pa_cons (pv 0) pa_nil))))
  (pss_one (ps_ret pe_int))
  pss_nil)
  (pss_cons (ps_for (passes_of rfl) rfl (DK.pi_enum2 (K := K) (by rfl) T.z_enumerate (pa_cons (pv 0) pa_nil)) (DK.pg_tup (K := K) rfl (pgs_cons (pg_name (i := 1) sc_first_odd.nd rfl (by first | exact .inl rfl | exact .inr rfl)) (pgs_cons (pg_name (i := 2) sc_first_odd.nd rfl (by first | exact .inl rfl | exact .inr rfl)) pgs_nil)))
  (pss_one (ps_if (pt_not (pt_val (pe_cx c_is_integer hr (by omega) (by rfl) (passes_call (takes_of rfl rfl rfl rfl) (fun _ _ _ _ z => z)) (pa_cons (pv 2) pa_nil))))
  (pss_one (ps_ret (pv 1)))
  pss_nil)))
  (pss_one (ps_ret pe_non)))), fun R k0 ds b hp hl hE => ?_⟩))
    (fnR1 F sc_first_odd rfl (fun cdv A outer sh H E hr => ⟨_, (pss_cons (ps_if (pt_not (pt_val (pe_cx c_is_list hr (by omega) (by rfl) (passes_call (takes_of rfl rfl rfl rfl) (fun _ _ _ _ z => z)) (pa_cons (pv 0) pa_nil))))
  (pss_one (ps_ret pe_int))
  pss_nil)
  (pss_cons (ps_for (passes_of rfl) rfl (DK.pi_enum2 (K := K) (by rfl) T.z_enumerate (pa_cons (pv 0) pa_nil)) (DK.pg_tup (K := K) rfl (pgs_cons (pg_name (i := 1) sc_first_odd.nd rfl (by first | exact .inl rfl | exact .inr rfl)) (pgs_cons (pg_name (i := 2) sc_first_odd.nd rfl (by first | exact .inl rfl | exact .inr rfl)) pgs_nil)))
  (pss_one (ps_if (pt_not (pt_val (pe_cx c_is_integer hr (by omega) (by rfl) (passes_call (takes_of rfl rfl rfl rfl) (fun _ _ _ _ z => z)) (pa_cons (pv 2) pa_nil))))
  (pss_one (ps_ret (pv 1)))
  pss_nil)))
  (pss_one (ps_ret pe_non)))), fun k0 o xs r hl => ?_⟩)), m, F.kp, bi⟩
  · obtain ⟨o, ho⟩ := hp
    obtain ⟨d, rfl⟩ : ∃ d, ds = [d] := by
      match ds, hl with
      | [d], _ => exact ⟨d, rfl⟩
    have ek : okO d = true := by
      by_cases h : okO d = true
      · exact h
      · have e : gOdd [d] = none := if_neg h
        rw [e] at ho
        cases ho
    have eg : gOdd [d] = some (.ret (oddD d)) := if_pos ek
    have loop : ∀ (l : List D), l.length ≤ 1000 → typed l = true → gOdd [d] = some (.ret (oddO (oddI l 0))) → ∀ Ψ : Psi, (∀ d' ς, gOdd [d] = some (.ret d') ∧ ς.b = b → Ψ.rt d' ς) → (∀ ς : Sta, gOdd [d] = some (.ret .non) ∧ ς.b = b → Ψ.nx ς) →
        ∃ Jv : Nat → Sta → Prop, Jv 0 { δ := startD n_first_odd [d], b := b } ∧ (∀ i e ς2, (enumD l)[i]? = some e → Jv i ς2 →
          WG ⟨K, R, k0, H, true, fun _ => none⟩ (gTup K 2 (gCons (gName 1) (gCons (gName 2) gNil))) e ς2 fun ς3 => WS ⟨K, R, k0, H, true, fun _ => none⟩ (tIfS (tNot (tB (tCall (SpS K 1 (spcF gIsInt)) [] E (tCons (tVar 2) tNil)))) (tRet (tVar 1)) tNext) ς3
            { nx := Jv (i + 1), ct := Jv (i + 1), bk := Ψ.nx, rt := Ψ.rt }) ∧ ∀ ς2, Jv (enumD l).length ς2 → Ψ.nx ς2 := fun l l1 l2 el Ψ hΨ hN => by
      refine ⟨fun i ς => ∃ x1 x2, ς = { δ := [some d, x1, x2], b := b } ∧ oddI (l.drop i) i = oddI l 0, ⟨none, none, rfl, rfl⟩, ?_, ?_⟩
      · rintro i e ς hi ⟨x1, x2, rfl, ej⟩
        obtain ⟨y, hy, rfl⟩ := enumD_get hi
        have st := oddI_step hy
        have ty : (tyN y).isSome = true := List.all_eq_true.mp l2 y (List.mem_of_getElem? hy)
        refine wg_tup rfl ?_
        repeat (walk_at "s1")
        dsimp only [List.set]
        cases hd : isIntD y with
        | true =>
          have e1 : gIsInt [y] = some (.ret (.bl true)) := by
            show (if (tyN y).isSome = true then some (Out.ret (.bl (isIntD y))) else none) = _
            rw [if_pos ty, hd]
          refine co_ret rfl e1 ?_
          repeat (walk_at "s1")
          exact ⟨_, _, rfl, by rw [← ej, st, if_pos hd]⟩
        | false =>
          have e1 : gIsInt [y] = some (.ret (.bl false)) := by
            show (if (tyN y).isSome = true then some (Out.ret (.bl (isIntD y))) else none) = _
            rw [if_pos ty, hd]
          refine co_ret rfl e1 ?_
          repeat (walk_at "s1")
          refine hΨ _ _ ⟨?_, rfl⟩
          rw [el, ← ej, st, if_neg (by rw [hd]; exact Bool.false_ne_true)]
          rfl
      · rintro ς ⟨x1, x2, rfl, ej⟩
        refine hN _ ⟨?_, rfl⟩
        have z : l.drop (enumD l).length = [] := by
          unfold enumD
          rw [List.length_mapIdx]
          exact List.drop_length
        rw [z] at ej
        rw [el, ← ej]
        rfl
    cases d
    case lst l =>
      obtain ⟨l1, l2⟩ := Bool.and_eq_true_iff.mp ek
      repeat (walk_at "s1")
      refine ws_for (wi_enumL ?_)
      repeat (walk_at "s1")
      refine loop l (of_decide_eq_true l1) l2 eg _ (fun d' ς z => z) fun ς z => ?_
      repeat (walk_at "s1")
      exact z
    case tup l =>
      obtain ⟨l1, l2⟩ := Bool.and_eq_true_iff.mp ek
      repeat (walk_at "s1")
      refine ws_for (wi_enumT ?_)
      repeat (walk_at "s1")
      refine loop l (of_decide_eq_true l1) l2 eg _ (fun d' ς z => z) fun ς z => ?_
      repeat (walk_at "s1")
      exact z
    all_goals first
      | (cases ek; done)
      | (repeat (walk_at "s1")
         exact ⟨eg, rfl⟩)
  · refine ws_seq (ws_if (wt_not (wt_B ?_)))
    refine we_callR1 (wl_cons (we_var rfl (wl_nil ⟨o, xs, rfl, .inl r, hl, ?_⟩)))
    repeat (walk_at "s1")
    refine ws_for (wi_enumR (wl_cons (we_var rfl (wl_nil ⟨o, xs, rfl, r, ?_⟩))))
    refine ⟨fun i ς => ∃ x1 x2, ς = { δ := [some (.ref o), x1, x2], b := 0 }, ⟨none, none, rfl⟩, ?_, ?_⟩
    · rintro i d ς hi ⟨x1, x2, rfl⟩
      obtain ⟨y, hy, rfl⟩ := enumD_get hi
      obtain ⟨n, rfl, _⟩ := get_ints hy
      refine wg_tup rfl ?_
      repeat (walk_at "s1")
      exact ⟨_, _, rfl⟩
    · rintro ς ⟨x1, x2, rfl⟩
      repeat (walk_at "s1")
      exact rfl
end
end K10

set_option Elab.async false
set_option linter.all false
set_option maxRecDepth 100000
set_option maxHeartbeats 4000000
namespace K10
open PySem PySem.Spec PyProof.Rows L2 DL
def x_BadPrime : DY.XD := ⟨"BadPrime", ["prime"], "BadPrime.__init__", defArgs s_BadPrime___init__, defBody s_BadPrime___init__, defScope s_BadPrime___init__⟩
theorem xs_BadPrime : DY.XShape x_BadPrime := ⟨⟨⟨_, _, _, _, _, _, _, _, _, rfl, (.cons .nil), rfl⟩, rfl, rfl, rfl, by decide +kernel, rfl, rfl, rfl, fun f hf => by
  simp only [x_BadPrime, List.mem_cons, List.not_mem_nil, or_false] at hf
  rcases hf with rfl <;> exact ⟨rfl, by decide⟩, ⟨_, rfl, rfl⟩, by decide⟩,
  fun _ _ _ _ _ _ us hl => match us, hl with | [_, _], _ => rfl⟩
def x_BadNumber : DY.XD := ⟨"BadNumber", ["number"], "BadNumber.__init__", defArgs s_BadNumber___init__, defBody s_BadNumber___init__, defScope s_BadNumber___init__⟩
theorem xs_BadNumber : DY.XShape x_BadNumber := ⟨⟨⟨_, _, _, _, _, _, _, _, _, rfl, (.cons .nil), rfl⟩, rfl, rfl, rfl, by decide +kernel, rfl, rfl, rfl, fun f hf => by
  simp only [x_BadNumber, List.mem_cons, List.not_mem_nil, or_false] at hf
  rcases hf with rfl <;> exact ⟨rfl, by decide⟩, ⟨_, rfl, rfl⟩, by decide⟩,
  fun _ _ _ _ _ _ us hl => match us, hl with | [_, _], _ => rfl⟩
def x_BadCoin : DY.XD := ⟨"BadCoin", ["index"], "BadCoin.__init__", defArgs s_BadCoin___init__, defBody s_BadCoin___init__, defScope s_BadCoin___init__⟩
theorem xs_BadCoin : DY.XShape x_BadCoin := ⟨⟨⟨_, _, _, _, _, _, _, _, _, rfl, (.cons .nil), rfl⟩, rfl, rfl, rfl, by decide +kernel, rfl, rfl, rfl, fun f hf => by
  simp only [x_BadCoin, List.mem_cons, List.not_mem_nil, or_false] at hf
  rcases hf with rfl <;> exact ⟨rfl, by decide⟩, ⟨_, rfl, rfl⟩, by decide⟩,
  fun _ _ _ _ _ _ us hl => match us, hl with | [_, _], _ => rfl⟩
def x_UnlikePrimes : DY.XD := ⟨"UnlikePrimes", [], "UnlikePrimes.__init__", defArgs s_UnlikePrimes___init__, defBody s_UnlikePrimes___init__, defScope s_UnlikePrimes___init__⟩
theorem xs_UnlikePrimes : DY.XShape x_UnlikePrimes := ⟨⟨⟨_, _, _, _, _, _, _, _, _, rfl, .nil, rfl⟩, rfl, rfl, rfl, by decide +kernel, rfl, rfl, rfl, nofun, ⟨_, rfl, rfl⟩, by decide⟩,
  fun _ _ _ _ _ _ us hl => match us, hl with | [_], _ => rfl⟩
def x_BadNumbers : DY.XD := ⟨"BadNumbers", ["index"], "BadNumbers.__init__", defArgs s_BadNumbers___init__, defBody s_BadNumbers___init__, defScope s_BadNumbers___init__⟩
theorem xs_BadNumbers : DY.XShape x_BadNumbers := ⟨⟨⟨_, _, _, _, _, _, _, _, _, rfl, (.cons .nil), rfl⟩, rfl, rfl, rfl, by decide +kernel, rfl, rfl, rfl, fun f hf => by
  simp only [x_BadNumbers, List.mem_cons, List.not_mem_nil, or_false] at hf
  rcases hf with rfl <;> exact ⟨rfl, by decide⟩, ⟨_, rfl, rfl⟩, by decide⟩,
  fun _ _ _ _ _ _ us hl => match us, hl with | [_, _], _ => rfl⟩
def x_BadDegree : DY.XD := ⟨"BadDegree", ["number"], "BadDegree.__init__", defArgs s_BadDegree___init__, defBody s_BadDegree___init__, defScope s_BadDegree___init__⟩
theorem xs_BadDegree : DY.XShape x_BadDegree := ⟨⟨⟨_, _, _, _, _, _, _, _, _, rfl, (.cons .nil), rfl⟩, rfl, rfl, rfl, by decide +kernel, rfl, rfl, rfl, fun f hf => by
  simp only [x_BadDegree, List.mem_cons, List.not_mem_nil, or_false] at hf
  rcases hf with rfl <;> exact ⟨rfl, by decide⟩, ⟨_, rfl, rfl⟩, by decide⟩,
  fun _ _ _ _ _ _ us hl => match us, hl with | [_, _], _ => rfl⟩
def x_NoPoly : DY.XD := ⟨"NoPoly", [], "NoPoly.__init__", defArgs s_NoPoly___init__, defBody s_NoPoly___init__, defScope s_NoPoly___init__⟩
theorem xs_NoPoly : DY.XShape x_NoPoly := ⟨⟨⟨_, _, _, _, _, _, _, _, _, rfl, .nil, rfl⟩, rfl, rfl, rfl, by decide +kernel, rfl, rfl, rfl, nofun, ⟨_, rfl, rfl⟩, by decide⟩,
  fun _ _ _ _ _ _ us hl => match us, hl with | [_], _ => rfl⟩
def xds : List DY.XD := [x_BadPrime, x_BadNumber, x_BadCoin, x_UnlikePrimes, x_BadNumbers, x_BadDegree, x_NoPoly]
def dd__wall : He.DefD := ⟨("_wall", none), "_wall", "_wall", defArgs s__wall, defBody s__wall, defScope s__wall, [], []⟩
def dd_is_integer : He.DefD := ⟨("is_integer", none), "is_integer", "is_integer", defArgs s_is_integer, defBody s_is_integer, defScope s_is_integer, [], []⟩
def dd_is_list : He.DefD := ⟨("is_list", none), "is_list", "is_list", defArgs s_is_list, defBody s_is_list, defScope s_is_list, [], []⟩
def dd_first_odd : He.DefD := ⟨("first_odd", none), "first_odd", "first_odd", defArgs s_first_odd, defBody s_first_odd, defScope s_first_odd, [], []⟩
def dd_lowest : He.DefD := ⟨("lowest", none), "lowest", "lowest", defArgs s_lowest, defBody s_lowest, defScope s_lowest, [], []⟩
def dd_check_prime : He.DefD := ⟨("check_prime", none), "check_prime", "check_prime", defArgs s_check_prime, defBody s_check_prime, defScope s_check_prime, [], []⟩
def dd_check_number : He.DefD := ⟨("check_number", none), "check_number", "check_number", defArgs s_check_number, defBody s_check_number, defScope s_check_number, [], []⟩
def dd_turned : He.DefD := ⟨("turned", none), "turned", "turned", defArgs s_turned, defBody s_turned, defScope s_turned, [], []⟩
def dd_is_coin : He.DefD := ⟨("is_coin", none), "is_coin", "is_coin", defArgs s_is_coin, defBody s_is_coin, defScope s_is_coin, [], []⟩
def dd_first_bad_coin : He.DefD := ⟨("first_bad_coin", none), "first_bad_coin", "first_bad_coin", defArgs s_first_bad_coin, defBody s_first_bad_coin, defScope s_first_bad_coin, [], []⟩
def dd_check_coins : He.DefD := ⟨("check_coins", none), "check_coins", "check_coins", defArgs s_check_coins, defBody s_check_coins, defScope s_check_coins, [], []⟩
def dd_check_like : He.DefD := ⟨("check_like", none), "check_like", "check_like", defArgs s_check_like, defBody s_check_like, defScope s_check_like, [], []⟩
def dd_worth_at : He.DefD := ⟨("worth_at", none), "worth_at", "worth_at", defArgs s_worth_at, defBody s_worth_at, defScope s_worth_at, [], []⟩
def dd_folded_at : He.DefD := ⟨("folded_at", none), "folded_at", "folded_at", defArgs s_folded_at, defBody s_folded_at, defScope s_folded_at, [], []⟩
def dd_rooted : He.DefD := ⟨("rooted", none), "rooted", "rooted", defArgs s_rooted, defBody s_rooted, defScope s_rooted, [], []⟩
def dd_is_shut : He.DefD := ⟨("is_shut", none), "is_shut", "is_shut", defArgs s_is_shut, defBody s_is_shut, defScope s_is_shut, [], []⟩
def dd_best_set : He.DefD := ⟨("best_set", none), "best_set", "best_set", defArgs s_best_set, defBody s_best_set, defScope s_best_set, [], []⟩
def dd_check_all : He.DefD := ⟨("check_all", none), "check_all", "check_all", defArgs s_check_all, defBody s_check_all, defScope s_check_all, [], []⟩
def dd_heaviest : He.DefD := ⟨("heaviest", none), "heaviest", "heaviest", defArgs s_heaviest, defBody s_heaviest, defScope s_heaviest, [], []⟩
def dd_wrong : He.DefD := ⟨("wrong", none), "wrong", "wrong", defArgs s_wrong, defBody s_wrong, defScope s_wrong, [], []⟩
def dd__law_w_worth : He.DefD := ⟨("_law_w_worth", none), "_law_w_worth", "_law_w_worth", defArgs s__law_w_worth, defBody s__law_w_worth, defScope s__law_w_worth, [], []⟩
def dd__law_w_rows : He.DefD := ⟨("_law_w_rows", none), "_law_w_rows", "_law_w_rows", defArgs s__law_w_rows, defBody s__law_w_rows, defScope s__law_w_rows, [], []⟩
def dd__law_w_lot : He.DefD := ⟨("_law_w_lot", none), "_law_w_lot", "_law_w_lot", defArgs s__law_w_lot, defBody s__law_w_lot, defScope s__law_w_lot, [], []⟩
def dd__law_w_coins : He.DefD := ⟨("_law_w_coins", none), "_law_w_coins", "_law_w_coins", defArgs s__law_w_coins, defBody s__law_w_coins, defScope s__law_w_coins, [], []⟩
def dd__law_w_lowest : He.DefD := ⟨("_law_w_lowest", none), "_law_w_lowest", "_law_w_lowest", defArgs s__law_w_lowest, defBody s__law_w_lowest, defScope s__law_w_lowest, [], []⟩
def dd__law_w_best_worth : He.DefD := ⟨("_law_w_best_worth", none), "_law_w_best_worth", "_law_w_best_worth", defArgs s__law_w_best_worth, defBody s__law_w_best_worth, defScope s__law_w_best_worth, [], []⟩
def dd__law_start : He.DefD := ⟨("_law_start", none), "_law_start", "_law_start", defArgs s__law_start, defBody s__law_start, defScope s__law_start, [], []⟩
def dd__law_draw : He.DefD := ⟨("_law_draw", none), "_law_draw", "_law_draw", defArgs s__law_draw, defBody s__law_draw, defScope s__law_draw, [], []⟩
def dd__law_pick : He.DefD := ⟨("_law_pick", none), "_law_pick", "_law_pick", defArgs s__law_pick, defBody s__law_pick, defScope s__law_pick, [], []⟩
def dd__law_mixed : He.DefD := ⟨("_law_mixed", none), "_law_mixed", "_law_mixed", defArgs s__law_mixed, defBody s__law_mixed, defScope s__law_mixed, [], []⟩
def dd__law_same : He.DefD := ⟨("_law_same", none), "_law_same", "_law_same", defArgs s__law_same, defBody s__law_same, defScope s__law_same, [], []⟩
def dd__law_frozen : He.DefD := ⟨("_law_frozen", none), "_law_frozen", "_law_frozen", defArgs s__law_frozen, defBody s__law_frozen, defScope s__law_frozen, [], []⟩
def dd__law_tried : He.DefD := ⟨("_law_tried", none), "_law_tried", "_law_tried", defArgs s__law_tried, defBody s__law_tried, defScope s__law_tried, [], []⟩
def dd__law_weight : He.DefD := ⟨("_law_weight", none), "_law_weight", "_law_weight", defArgs s__law_weight, defBody s__law_weight, defScope s__law_weight, [], []⟩
def dd__law_is_zero : He.DefD := ⟨("_law_is_zero", none), "_law_is_zero", "_law_is_zero", defArgs s__law_is_zero, defBody s__law_is_zero, defScope s__law_is_zero, [], []⟩
def dd__law_row_right : He.DefD := ⟨("_law_row_right", none), "_law_row_right", "_law_row_right", defArgs s__law_row_right, defBody s__law_row_right, defScope s__law_row_right, [], []⟩
def dd_law : He.DefD := ⟨("law", none), "law", "law", defArgs s_law, defBody s_law, defScope s_law, [], []⟩
def dd_Poly___init__ : He.DefD := ⟨("Poly", some "__init__"), "__init__", "Poly.__init__", defArgs s_Poly___init__, defBody s_Poly___init__, defScope s_Poly___init__, [], []⟩
def dd_Poly_numbers : He.DefD := ⟨("Poly", some "numbers"), "numbers", "Poly.numbers", defArgs s_Poly_numbers, defBody s_Poly_numbers, defScope s_Poly_numbers, [], []⟩
def dd_Poly_degree : He.DefD := ⟨("Poly", some "degree"), "degree", "Poly.degree", defArgs s_Poly_degree, defBody s_Poly_degree, defScope s_Poly_degree, [], []⟩
def dd_Poly_at : He.DefD := ⟨("Poly", some "at"), "at", "Poly.at", defArgs s_Poly_at, defBody s_Poly_at, defScope s_Poly_at, [], []⟩
def dd_Poly___eq__ : He.DefD := ⟨("Poly", some "__eq__"), "__eq__", "Poly.__eq__", defArgs s_Poly___eq__, defBody s_Poly___eq__, defScope s_Poly___eq__, [], []⟩
def dd_Poly___add__ : He.DefD := ⟨("Poly", some "__add__"), "__add__", "Poly.__add__", defArgs s_Poly___add__, defBody s_Poly___add__, defScope s_Poly___add__, [], []⟩
def dd_Poly___sub__ : He.DefD := ⟨("Poly", some "__sub__"), "__sub__", "Poly.__sub__", defArgs s_Poly___sub__, defBody s_Poly___sub__, defScope s_Poly___sub__, [], []⟩
def dd_Poly___mul__ : He.DefD := ⟨("Poly", some "__mul__"), "__mul__", "Poly.__mul__", defArgs s_Poly___mul__, defBody s_Poly___mul__, defScope s_Poly___mul__, [], []⟩
def dd_Poly_parted : He.DefD := ⟨("Poly", some "parted"), "parted", "Poly.parted", defArgs s_Poly_parted, defBody s_Poly_parted, defScope s_Poly_parted, [], []⟩
def dd_Poly_roots : He.DefD := ⟨("Poly", some "roots"), "roots", "Poly.roots", defArgs s_Poly_roots, defBody s_Poly_roots, defScope s_Poly_roots, [], []⟩
def fns0 : List He.DefD := [dd__wall, dd_is_integer, dd_is_list, dd_first_odd, dd_lowest, dd_check_prime, dd_check_number, dd_turned, dd_is_coin, dd_first_bad_coin, dd_check_coins, dd_check_like, dd_worth_at, dd_folded_at, dd_rooted, dd_is_shut, dd_best_set, dd_check_all, dd_heaviest, dd_wrong, dd__law_w_worth, dd__law_w_rows, dd__law_w_lot, dd__law_w_coins, dd__law_w_lowest, dd__law_w_best_worth, dd__law_start, dd__law_draw, dd__law_pick, dd__law_mixed]
def fns1 : List He.DefD := [dd__law_same, dd__law_frozen, dd__law_tried, dd__law_weight, dd__law_is_zero, dd__law_row_right, dd_law, dd_Poly___init__, dd_Poly_numbers, dd_Poly_degree, dd_Poly_at, dd_Poly___eq__, dd_Poly___add__, dd_Poly___sub__, dd_Poly___mul__, dd_Poly_parted, dd_Poly_roots]
def fns : List He.DefD := fns0 ++ (fns1)
def exs (K : PySem.W.Frag) : Bool := DY.ckB K "Poly" && DY.neB K (He.ga K "Poly")
def fas0 : List He.Fa := [.glo "TalkError", .glo "BadPrime", .glo "BadNumber", .glo "BadNumbers", .glo "UnlikePrimes", .glo "BadCoin", .glo "BadDegree", .glo "NoPoly", .glo "Poly", .glo "_wall", .glo "is_integer", .glo "is_list", .glo "first_odd", .glo "lowest", .glo "check_prime", .glo "check_number", .glo "turned", .glo "is_coin", .glo "first_bad_coin", .glo "check_coins", .glo "check_like", .glo "worth_at", .glo "folded_at", .glo "rooted", .glo "is_shut", .glo "best_set", .glo "check_all", .glo "heaviest", .glo "wrong", .glo "_law_w_worth"]
def fas1 : List He.Fa := [.glo "_law_w_rows", .glo "_law_w_lot", .glo "_law_w_coins", .glo "_law_w_lowest", .glo "_law_w_best_worth", .glo "_law_start", .glo "_law_draw", .glo "_law_pick", .glo "_law_mixed", .glo "_law_same", .glo "_law_frozen", .glo "_law_tried", .glo "_law_weight", .glo "_law_is_zero", .glo "_law_row_right", .glo "law", .free "abs", .free "all", .free "any", .free "bool", .free "dict", .free "enumerate", .free "int", .free "isinstance", .free "len", .free "list", .free "max", .free "range", .free "set", .free "sorted"]
def fas2 : List He.Fa := [.free "sum", .free "tuple", .free "zip", .int "MOST_PRIME" 101, .cls "Poly", .noat "Poly" "prime", .noat "Poly" "row", .mkr "Poly", .meth "Poly" "numbers", .meth "Poly" "degree", .meth "Poly" "at", .meth "Poly" "__eq__", .meth "Poly" "__add__", .meth "Poly" "__sub__", .meth "Poly" "__mul__", .meth "Poly" "parted", .meth "Poly" "roots", .exm "BadPrime" "NoPoly" false, .exm "BadNumber" "NoPoly" false, .exm "BadCoin" "NoPoly" false, .exm "UnlikePrimes" "NoPoly" false, .exm "BadNumbers" "NoPoly" false, .exm "BadDegree" "NoPoly" false, .exm "NoPoly" "NoPoly" true]
def fas : List He.Fa := fas0 ++ (fas1 ++ (fas2))
def names0 : List PySem.Str := ["_wall", "is_integer", "is_list", "first_odd", "lowest", "TalkError", "BadPrime", "BadNumber", "BadNumbers", "UnlikePrimes", "BadCoin", "BadDegree", "NoPoly", "MOST_PRIME", "check_prime", "check_number", "turned", "is_coin", "first_bad_coin", "check_coins", "check_like", "worth_at", "folded_at", "Poly", "rooted", "is_shut", "best_set", "check_all", "heaviest", "wrong"]
def names1 : List PySem.Str := ["_law_w_worth", "_law_w_rows", "_law_w_lot", "_law_w_coins", "_law_w_lowest", "_law_w_best_worth", "_law_start", "_law_draw", "_law_pick", "_law_mixed", "_law_same", "_law_frozen", "_law_tried", "_law_weight", "_law_is_zero", "_law_row_right"]
def names : List PySem.Str := names0 ++ (names1)
abbrev R : PySem.W.OpenRow := PySem.W.OpenLaw.row PySem.Challenge.rw_weaktalks_k10_whole_heaviest
abbrev tfs : List He.Defn := [("law", none)]
abbrev fileS : Str := R.prog.main.file
abbrev hk : PySem.W.Hook := DY.hookY 4 fileS fas fns [] xds exs tfs
def ob (s : PySem.W.SharedT) : DY.AlY := DY.obsY 4 fileS fas fns [] xds exs tfs (HandSHeadRun.getT s)
theorem ob_eq (s : PySem.W.SharedT) : ob s = hk.obs s.abs := DY.obsY_eq (HandSHeadRun.getT_eq s)
abbrev iLaw : Nat := 53
set_option maxHeartbeats 0 in
theorem run (w : World) : HandSHeadRun.RunEq R (PySem.W.view R.prog [iLaw]) hk ob 9000 names w := by
  intro os
  kernel_rfl

end K10

set_option Elab.async false
set_option linter.all false
set_option maxRecDepth 100000
set_option maxHeartbeats 4000000
namespace K10
open PySem PySem.Spec PyProof.Rows L2 DL
section
variable {P : Program} {w : World} {K : PySem.W.Frag} {mg : Str → Option Value} {base : Heap} {A : Ad}
local macro_rules | `(tactic| walk_at "s0") => `(tactic| with_reducible first
  | refine ws_seq ?_ | refine ws_next ?_ | refine ws_ret ?_ | refine ws_retN ?_ | refine ws_if ?_ | refine ws_asg ?_ | refine ws_drop ?_ | refine ws_par ?_ | refine ws_break ?_ | refine ws_cont ?_
  | refine we_var rfl ?_ | refine we_int ?_ | refine we_non ?_ | refine we_bl ?_ | refine we_str ?_ | refine we_ty ?_ | refine we_dnew ?_ | refine we_op ?_ | refine we_un ?_
  | refine we_and ?_ | refine we_or ?_ | refine we_not ?_ | refine we_if ?_ | refine we_chain ?_ | refine we_cb ?_ | refine we_tup ?_ | refine we_lst ?_
  | refine wl_cons ?_ | refine wl_nil ?_ | refine wt_B ?_ | refine wt_test ?_ | refine wt_and ?_ | refine wt_or ?_ | refine wt_not ?_ | refine wt_yes ?_
  | refine wi_tup ?_ | refine wi_list ?_ | refine wg_tup rfl ?_ | refine wgs_cons ?_ | refine wgs_nil ?_
  | refine rd_add_int ?_ | refine rd_sub ?_ | refine rd_lt ?_ | refine rd_le ?_ | refine rd_gt ?_ | refine rd_ge ?_ | refine rd_eq_int ?_ | refine rd_ne_int ?_ | refine rd_eq_str ?_ | refine rd_ne_str ?_ | refine rd_eq_bl ?_ | refine rd_ne_bl ?_ | refine rd_is ?_ | refine rd_is_bl ?_ | refine rd_isnot ?_ | refine ru_neg ?_
  | refine rc_int ?_ | refine rc_abs ?_ | refine rc_anyF ?_ | refine rc_allF ?_
  | refine brT ?_ | refine brF ?_ | refine brT' ?_ | refine brF' ?_
  | refine ⟨_, rfl, ?_⟩)
set_option hygiene false in
local macro_rules | `(tactic| walk_at "s1") => `(tactic| first
  | refine we_isiLT ?_ | refine we_isiILT ?_ | refine wi_seqV (by rfl) (by rfl) ?_ | walk_at "s0" | refine ⟨true, by rfl, ?_⟩ | refine ⟨false, by rfl, ?_⟩ | refine we_ref ?_ | refine we_fld1 ?_ | refine ⟨_, _, _, _, rfl, T.n_Poly_prime, by rfl, ?_⟩ | refine ⟨_, _, _, _, rfl, T.n_Poly_row, by rfl, ?_⟩ | refine rc_isiB (r := true) (by rfl) ?_ | refine rc_isiO T.k_Poly ?_ | refine rc_isiN T.k_Poly (by rfl) ?_ | refine we_callF (by assumption) ?_ | refine we_callF (X := fun _ _ _ _ => False) xok0 ?_ | refine we_callFl (by assumption) ?_ | refine we_callFl (X := fun _ _ _ _ => False) xok0 ?_ | refine we_makeFl (by assumption) ?_ | refine we_makeFl (X := fun _ _ _ _ => False) xok0 ?_ | refine we_makeF (by assumption) ?_ | refine we_makeF (X := fun _ _ _ _ => False) xok0 ?_ | refine DX.ws_rs (by assumption) ?_ | refine wt_test ?_ | refine co_ret rfl (by rfl) ?_ | refine wg_nm (by rfl) ?_ | refine parB (by rfl) (by rfl) ?_ | refine szB (by rfl) ?_ | refine szL (by rfl) ?_ | refine brT2 (by rfl) ?_ | refine brF2 (by rfl) ?_ | refine brT3 (by rfl) ?_ | refine brF3 (by rfl) ?_ | refine rc_isiB (r := false) (by rfl) ?_)
theorem prm_le {p : Int} (h : isPrm p = true) : 2 ≤ p ∧ p ≤ 101 := by
  unfold isPrm at h
  simp only [Bool.and_eq_true, decide_eq_true_eq] at h
  exact ⟨h.1, h.2.1⟩
theorem gPrime_int {A : Ad} {p : Int} : gPrime A [.int p] = some (if isPrm p then .ret .non else .exc A.BadPrime ["prime"] [.int p]) := rfl
theorem gPrime_bad {A : Ad} {d : D} (h : (tyN d).isSome = true) (h2 : isIntD d = false) : gPrime A [d] = some (.exc A.BadPrime ["prime"] [d]) := by
  cases d <;> first | rfl | (cases h; done) | (cases h2; done)
/-- without noughts at the end -/
def strip (l : List Int) : List Int := (l.reverse.dropWhile fun x => decide (x = 0)).reverse
theorem strip_nil : strip [] = [] := rfl
theorem strip_0 (l : List Int) : strip (l ++ [0]) = strip l := by
  unfold strip
  rw [List.reverse_append]
  rfl
theorem strip_n {l : List Int} {x : Int} (h : x ≠ 0) : strip (l ++ [x]) = l ++ [x] := by
  unfold strip
  rw [List.reverse_append]
  show ((x :: l.reverse).dropWhile _).reverse = _
  rw [List.dropWhile_cons, if_neg (by simpa using h), List.reverse_cons, List.reverse_reverse]
theorem strip_len (l : List Int) : (strip l).length ≤ l.length := by
  unfold strip
  rw [List.length_reverse]
  exact Nat.le_trans (List.IsSuffix.length_le (List.dropWhile_suffix _)) (by rw [List.length_reverse]; exact Nat.le_refl _)
def bare (p : Int) (l : List Int) : List Int := strip (l.map fun x => x % p)
def intsD : D → List Int
  | .lst l => l.map dI
  | .tup l => l.map dI
  | _ => []
def gPolyB (A : Ad) (d e : D) : OutI := match d with
  | .int p => if isPrm p = true then (match oddD e with
    | .non => .ok ["prime", "row"] [.int p, iL (bare p (intsD e))]
    | x => .exc A.BadNumbers ["index"] [x]) else .exc A.BadPrime ["prime"] [d]
  | _ => .exc A.BadPrime ["prime"] [d]
def gPoly (A : Ad) : List D → Option OutI
  | [d, e] => if ((tyN d).isSome && okO e) = true then some (gPolyB A d e) else none
  | _ => none
/-- a polynomial -/
abbrev poly (A : Ad) (p : Int) (r : List Int) : D := .obj A.Poly ["prime", "row"] [.int p, iL r]
def PolyR (p : Int) (xs : List Int) : Prop := isPrm p = true ∧ xs.length ≤ 1000
theorem cut_last (l : List D) (x : D) : DL.cutD (l ++ [x]) none (some (-1)) = l := by
  have e1 : HT.sIx (l ++ [x]).length (l ++ [x]).length (some (-1)) = l.length := by
    show (if (-1 : Int) < 0 then ((-1 : Int) + ((l ++ [x]).length : Int)).toNat else min (-1 : Int).toNat (l ++ [x]).length) = _
    rw [if_pos (by decide), List.length_append]
    show ((-1 : Int) + ((l.length + 1 : Nat) : Int)).toNat = _
    omega
  unfold DL.cutD
  rw [e1]
  show ((l ++ [x]).drop 0).take (l.length - 0) = l
  rw [List.drop_zero, Nat.sub_zero, List.take_left']
  rfl
/-- the loop that strips, and the fields -/
theorem w_strip (T : Tx P K mg A) {R : Res} {k0 H : Hp} {o dx : Addr} {p : Int} {x2 x3 x5 : Option D} {row : List Int} {b : Nat} {Ψ : Psi} (q : Ψ.nx { δ := [some (.ref o), some (.int p), x2, x3, some (iL (strip row)), x5], m := [(o, .ins A.Poly dx ["prime", "row"] [.int p, iL (strip row)])], b := b })
    (hR : R = initR o) :
    WS ⟨K, R, k0, H, false, fun _ => none⟩ (tSeq (tWhile (tAnd (tTest (tOp (rNeK K) (tVar 4) (tLst tNil))) (tTest (tOp (rEqK K) (tOp (rIxK K) (tVar 4) (tUn rNegK (tC (V.int 1)))) (tC (V.int 0)))))
        (tAsg (tSl (rSlK K) (tVar 4) tNoPart (tPart (tUn rNegK (tC (V.int 1))))) (gName 4)))
      (tSeq (sFld K (tVar 0) (tVar 1) "prime") (sFld K (tVar 0) (tVar 4) "row")))
      { δ := [some (.ref o), some (.int p), x2, x3, some (iL row), x5], m := [(o, .ins A.Poly dx [] [])], b := b } Ψ := by
  subst hR
  refine ws_seq (ws_while (fun m ς => ∃ r, ς = { δ := [some (.ref o), some (.int p), x2, x3, some (iL r), x5], m := [(o, .ins A.Poly dx [] [])], b := b } ∧ m = r.length ∧ strip r = strip row) _ ⟨row, rfl, rfl, rfl⟩ ?_)
  rintro m ς1 ⟨r, rfl, rfl, er⟩
  have fin : strip r = r → Ψ.nx { δ := [some (.ref o), some (.int p), x2, x3, some (iL r), x5], m := [(o, .ins A.Poly dx ["prime", "row"] [.int p, iL r])], b := b } := fun e => by
    rw [← er, e] at q
    exact q
  have store : strip r = r → WS ⟨K, initR o, k0, H, false, fun _ => none⟩ (sFld K (tVar 0) (tVar 1) "prime") { δ := [some (.ref o), some (.int p), x2, x3, some (iL r), x5], m := [(o, .ins A.Poly dx [] [])], b := b } { Ψ with nx := fun ς => WS ⟨K, initR o, k0, H, false, fun _ => none⟩ (sFld K (tVar 0) (tVar 4) "row") ς Ψ } := fun e => by
    refine (ws_fld (j := 0) (o := o) (C := A.Poly) (dx := dx) (ns := []) (ds := []) (fun _ _ _ _ z => z) ?_)
    refine we_var rfl (we_var rfl ⟨rfl, rfl, T.n_Poly_prime.1, T.n_Poly_prime.2, by decide, ?_⟩)
    refine ws_fld (j := 0) (o := o) (C := A.Poly) (dx := dx) (ns := ["prime"]) (ds := [.int p]) (fun _ _ _ _ z => z) ?_
    exact we_var rfl (we_var rfl ⟨rfl, rfl, T.n_Poly_row.1, T.n_Poly_row.2, by decide, fin e⟩)
  repeat (walk_at "s1")
  refine rd_ne_iL (b := []) ?_
  rcases List.eq_nil_or_concat r with rfl | ⟨l, x, rfl⟩
  · repeat (walk_at "s1")
    exact store rfl
  · rw [List.concat_eq_append] at *
    have ne : decide (l ++ [x] = []) = false := by simp
    rw [ne]
    repeat (walk_at "s1")
    refine rd_ix rfl (d := .int x) (by rw [List.map_append]; exact atI_last _ _) ?_
    repeat (walk_at "s1")
    refine brD (fun hx => ?_) (fun hx => ?_)
    · subst hx
      repeat (walk_at "s1")
      refine we_slL ?_
      repeat (walk_at "s1")
      refine wo_none (wo_some ?_)
      repeat (walk_at "s1")
      have ec : DL.cutD ((l ++ [0]).map D.int) none (some (-1)) = l.map D.int := by
        rw [List.map_append]
        exact cut_last _ _
      dsimp only [List.set]
      rw [ec]
      refine ⟨l.length, by rw [List.length_append]; exact Nat.lt_succ_self _, l, rfl, rfl, ?_⟩
      rw [← er, strip_0]
    · repeat (walk_at "s1")
      exact store (strip_n hx)
theorem ok_Poly (T : Tx P K mg A) : MakX P w K mg base 3 "Poly" A.Poly (spOr (SpI K 3 A.Poly (spcI (gPoly A))) (SpIR K A.Poly PolyR ["prime", "row"] fun p xs => [.int p, iL (bare p xs)])) := by
  have c_check_prime := @ok_check_prime P w K mg base A T
  have c_first_odd := @ok_first_odd P w K mg base A T
  obtain ⟨f, fd, M, F, bi⟩ := T.i_Poly
  refine ⟨f, fd, _, M, fn_or (fnI F sc_Poly___init__ rfl (fun cdv A' outer sh H E hr => ⟨_, (pss_cons (ps_expr (pe_cx c_check_prime hr (by omega) (by rfl) (passes_call (takes_of rfl rfl rfl rfl) (fun _ _ _ _ z => z)) (pa_cons (pv 1) pa_nil)))
  (pss_cons (ps_asg (pe_cx c_first_odd hr (by omega) (by rfl) (passes_call (takes_of rfl rfl rfl rfl) (fun _ _ _ _ z => z)) (pa_cons (pv 2) pa_nil)) (pg_name (i := 3) sc_Poly___init__.nd rfl (by first | exact .inl rfl | exact .inr rfl)))
  (pss_cons (ps_if (pt_cmpR op_isnotK (pv 3) pe_non (nomark _))
  (pss_one (DX.ps_rs (takes_of rfl rfl rfl rfl) T.x_BadNumbers (by decide) (by decide) hr (pa_cons (pv 3) pa_nil)))
  pss_nil)
  (pss_cons (ps_setLc (i := 4) (own := [("one", 5)]) (g := (gName 5)) (tt := tYes) rfl sc_Poly___init__.nd rfl rfl (sw_true rfl rfl rfl (by decide +kernel)) (DK.pi_seq (K := K) (pv 2)) (blkOk_by (own := [("one", 5)]) (N := n_Poly___init__) (sc := (defScope s_Poly___init__)) (by first | decide +kernel | kernel_rfl)) (fun _ _ _ _ _ => (pg_name (i := 5) sc_Poly___init__.nd rfl (by first | exact .inl rfl | exact .inr rfl))) (fun _ _ _ _ _ => pts_nil) (fun _ _ _ _ _ => (pe_op op_modK (pv 5) (pv 1))))
  (pss_cons (ps_while (passes_of rfl) (PW.pt (pw_and (pt_cmpR (DK.op_ne (K := K) (hr.units)) (pv 4) (pe_lst pa_nil) (nomark _)) (pw_and1 (pt_cmpR (DK.op_eq (K := K) (hr.units)) (pe_ix (DK.ix (K := K)) (pv 4) (pe_un un_negK pe_int) (fun _ _ => rfl)) pe_int (nomark _)))))
  (pss_one (ps_asg (pe_slice (DK.sl (K := K)) (pv 4) po_none (po_some (pe_un un_negK pe_int))) (pg_name (i := 4) sc_Poly___init__.nd rfl (by first | exact .inl rfl | exact .inr rfl)))))
  (pss_cons (ps_fld (pv 0) (pv 1) rfl)
  (pss_one (ps_fld (pv 0) (pv 4) rfl)))))))), fun o dx k0 ds hp hl hE => ?_⟩))
    (fnIR F sc_Poly___init__ rfl (fun cdv A' outer sh H E hr => ⟨_, (pss_cons (ps_expr (pe_cx c_check_prime hr (by omega) (by rfl) (passes_call (takes_of rfl rfl rfl rfl) (fun _ _ _ _ z => z)) (pa_cons (pv 1) pa_nil)))
  (pss_cons (ps_asg (pe_cx c_first_odd hr (by omega) (by rfl) (passes_call (takes_of rfl rfl rfl rfl) (fun _ _ _ _ z => z)) (pa_cons (pv 2) pa_nil)) (pg_name (i := 3) sc_Poly___init__.nd rfl (by first | exact .inl rfl | exact .inr rfl)))
  (pss_cons (ps_if (pt_cmpR op_isnotK (pv 3) pe_non (nomark _))
  (pss_one (DX.ps_rs (takes_of rfl rfl rfl rfl) T.x_BadNumbers (by decide) (by decide) hr (pa_cons (pv 3) pa_nil)))
  pss_nil)
  (pss_cons (ps_setLc (i := 4) (own := [("one", 5)]) (g := (gName 5)) (tt := tYes) rfl sc_Poly___init__.nd rfl rfl (sw_true rfl rfl rfl (by decide +kernel)) (DK.pi_seq (K := K) (pv 2)) (blkOk_by (own := [("one", 5)]) (N := n_Poly___init__) (sc := (defScope s_Poly___init__)) (by first | decide +kernel | kernel_rfl)) (fun _ _ _ _ _ => (pg_name (i := 5) sc_Poly___init__.nd rfl (by first | exact .inl rfl | exact .inr rfl))) (fun _ _ _ _ _ => pts_nil) (fun _ _ _ _ _ => (pe_op op_modK (pv 5) (pv 1))))
  (pss_cons (ps_while (passes_of rfl) (PW.pt (pw_and (pt_cmpR (DK.op_ne (K := K) (hr.units)) (pv 4) (pe_lst pa_nil) (nomark _)) (pw_and1 (pt_cmpR (DK.op_eq (K := K) (hr.units)) (pe_ix (DK.ix (K := K)) (pv 4) (pe_un un_negK pe_int) (fun _ _ => rfl)) pe_int (nomark _)))))
  (pss_one (ps_asg (pe_slice (DK.sl (K := K)) (pv 4) po_none (po_some (pe_un un_negK pe_int))) (pg_name (i := 4) sc_Poly___init__.nd rfl (by first | exact .inl rfl | exact .inr rfl)))))
  (pss_cons (ps_fld (pv 0) (pv 1) rfl)
  (pss_one (ps_fld (pv 0) (pv 4) rfl)))))))), fun i dx o p xs k0 r hp => ?_⟩)), T.m_Poly, bi⟩
  · obtain ⟨oo, ho⟩ := hp
    obtain ⟨d, e, rfl⟩ : ∃ d e, ds = [d, e] := by
      match ds, hl with
      | [d, e], _ => exact ⟨d, e, rfl⟩
    have hx := xok_init hE
    have hX := xokW hx
    have kk : (tyN d).isSome = true ∧ okO e = true := by
      by_cases h : ((tyN d).isSome && okO e) = true
      · exact Bool.and_eq_true_iff.mp h
      · have z : gPoly A [d, e] = none := if_neg h
        rw [z] at ho
        cases ho
    have eg : gPoly A [d, e] = some (gPolyB A d e) := if_pos (by rw [kk.1, kk.2]; rfl)
    have bad : ∀ {C : Addr} {ns : List Str} {fs : List D}, gPolyB A d e = .exc C ns fs → gPoly A [d, e] = some (.exc C ns fs) := fun z => by rw [eg, z]
    repeat (walk_at "s1")
    cases h0 : isIntD d with
    | false =>
      refine co_exc rfl (gPrime_bad kk.1 h0) (bad ?_)
      cases d <;> first | rfl | (cases h0; done)
    | true =>
      obtain ⟨p, rfl⟩ : ∃ p, d = .int p := by cases d <;> first | exact ⟨_, rfl⟩ | cases h0
      refine co_if rfl gPrime_int (fun h1 => ?_) (fun h1 => ?_)
      · refine .ret ?_
        obtain ⟨p1, p2⟩ := prm_le h1
        repeat (walk_at "s1")
        refine co_ret rfl (show gOdd [e] = some (.ret (oddD e)) from if_pos kk.2) ?_
        have lt : ∀ {l : List D}, l.length ≤ 1000 → l.length < sizeLine := fun h => lt_size (by omega)
        cases h2 : oddD e with
        | non =>
          obtain ⟨xs, lx, es⟩ : ∃ xs : List Int, xs.length ≤ 1000 ∧ (e = .lst (xs.map D.int) ∨ e = .tup (xs.map D.int)) := by
            have k2 := kk.2
            cases e with
            | lst l =>
              have hn : oddI l 0 = none := by
                cases q : oddI l 0 with
                | none => rfl
                | some i =>
                  have h2 : oddO (oddI l 0) = .non := h2
                  rw [q] at h2
                  cases h2
              obtain ⟨xs, rfl⟩ := ints_of hn
              have := of_decide_eq_true (Bool.and_eq_true_iff.mp k2).1
              exact ⟨xs, by rw [List.length_map] at this; exact this, .inl rfl⟩
            | tup l =>
              have hn : oddI l 0 = none := by
                cases q : oddI l 0 with
                | none => rfl
                | some i =>
                  have h2 : oddO (oddI l 0) = .non := h2
                  rw [q] at h2
                  cases h2
              obtain ⟨xs, rfl⟩ := ints_of hn
              have := of_decide_eq_true (Bool.and_eq_true_iff.mp k2).1
              exact ⟨xs, by rw [List.length_map] at this; exact this, .inr rfl⟩
            | _ => cases h2
          have ei : intsD e = xs := by
            have z : (xs.map D.int).map dI = xs := by
              rw [List.map_map]
              exact (List.map_congr_left fun _ _ => rfl).trans (List.map_id' xs)
            rcases es with rfl | rfl <;> exact z
          have done : gPoly A [.int p, e] = some (.ok ["prime", "row"] [.int p, iL (bare p xs)]) := by
            rw [eg]
            simp [gPolyB, h1, h2, ei]
          have emap : (xs.map D.int).map (fun d => D.int (dI d % p)) = (xs.map fun x => x % p).map D.int := by
            rw [List.map_map, List.map_map]
            rfl
          have items : ∀ d ∈ xs.map D.int, ∃ x, d = .int x := fun d hd => by
            obtain ⟨x, _, rfl⟩ := List.mem_map.mp hd
            exact ⟨x, rfl⟩
          rcases es with rfl | rfl
          all_goals
            repeat (walk_at "s1")
            refine we_lcM (kg_name (by decide)) ?_
            repeat (walk_at "s1")
            refine ⟨fun d => .int (dI d % p), lt (by rw [List.length_map]; exact lx), fun d hd oo acc => ?_, ?_⟩
            · obtain ⟨x, rfl⟩ := items d hd
              repeat (walk_at "s1")
              refine rd_mod (by omega) ?_
              exact ⟨rfl, rfl, rfl⟩
            · rw [emap]
              refine wg_nm (by rfl) ?_
              dsimp only [List.set]
              refine w_strip T ?_ rfl
              exact ⟨_, _, rfl, done⟩
        | int i =>
          have hx' : gPoly A [.int p, e] = some (.exc A.BadNumbers ["index"] [.int i]) := bad (by simp [gPolyB, h1, h2])
          repeat (walk_at "s1")
          exact ⟨rfl, hx'⟩
        | _ =>
          exfalso
          cases e <;> first
            | (cases h2; done)
            | (rename_i l
               have h2 := h2
               unfold oddD oddO at h2
               dsimp only at h2
               split at h2 <;> cases h2)
      · exact .exc (bad (by simp [gPolyB, h1]))
  · repeat (walk_at "s1")
    refine co_if rfl gPrime_int (fun h1 => .ret ?_) (fun h1 => absurd hp.1 (by rw [h1]; exact Bool.false_ne_true))
    obtain ⟨p1, p2⟩ := prm_le h1
    refine ws_seq (ws_asg ?_)
    refine we_callR1 (wl_cons (we_var rfl (wl_nil ⟨o, xs, rfl, .inl r, hp.2, ?_⟩)))
    repeat (walk_at "s1")
    refine we_lcM (kg_name (by decide)) ?_
    refine wi_seqR (we_var rfl ⟨o, xs, rfl, r, ?_⟩)
    refine ⟨fun d => .int (dI d % p), lt_size (by rw [List.length_map]; have := hp.2; omega), fun d hd oo acc => ?_, ?_⟩
    · obtain ⟨x, _, rfl⟩ := List.mem_map.mp hd
      repeat (walk_at "s1")
      refine rd_mod (by omega) ?_
      exact ⟨rfl, rfl, rfl⟩
    · have e : (xs.map D.int).map (fun d => D.int (dI d % p)) = (xs.map fun x => x % p).map D.int := by
        rw [List.map_map, List.map_map]
        rfl
      rw [e]
      refine wg_nm (by rfl) ?_
      dsimp only [List.set]
      refine w_strip T ?_ rfl
      exact rfl
end
end K10

set_option Elab.async false
set_option linter.all false
set_option maxRecDepth 100000
set_option maxHeartbeats 4000000
namespace K10
open PySem PySem.Spec PyProof.Rows L2 DL
section
variable {P : Program} {w : World} {K : PySem.W.Frag} {mg : Str → Option Value} {base : Heap} {A : Ad}
local macro_rules | `(tactic| walk_at "s0") => `(tactic| with_reducible first
  | refine ws_seq ?_ | refine ws_next ?_ | refine ws_ret ?_ | refine ws_retN ?_ | refine ws_if ?_ | refine ws_asg ?_ | refine ws_drop ?_ | refine ws_par ?_ | refine ws_break ?_ | refine ws_cont ?_
  | refine we_var rfl ?_ | refine we_int ?_ | refine we_non ?_ | refine we_bl ?_ | refine we_str ?_ | refine we_ty ?_ | refine we_dnew ?_ | refine we_op ?_ | refine we_un ?_
  | refine we_and ?_ | refine we_or ?_ | refine we_not ?_ | refine we_if ?_ | refine we_chain ?_ | refine we_cb ?_ | refine we_tup ?_ | refine we_lst ?_
  | refine wl_cons ?_ | refine wl_nil ?_ | refine wt_B ?_ | refine wt_test ?_ | refine wt_and ?_ | refine wt_or ?_ | refine wt_not ?_ | refine wt_yes ?_
  | refine wi_tup ?_ | refine wi_list ?_ | refine wg_tup rfl ?_ | refine wgs_cons ?_ | refine wgs_nil ?_
  | refine rd_add_int ?_ | refine rd_sub ?_ | refine rd_lt ?_ | refine rd_le ?_ | refine rd_gt ?_ | refine rd_ge ?_ | refine rd_eq_int ?_ | refine rd_ne_int ?_ | refine rd_eq_str ?_ | refine rd_ne_str ?_ | refine rd_eq_bl ?_ | refine rd_ne_bl ?_ | refine rd_is ?_ | refine rd_is_bl ?_ | refine rd_isnot ?_ | refine ru_neg ?_
  | refine rc_int ?_ | refine rc_abs ?_ | refine rc_anyF ?_ | refine rc_allF ?_
  | refine brT ?_ | refine brF ?_ | refine brT' ?_ | refine brF' ?_
  | refine ⟨_, rfl, ?_⟩)
set_option hygiene false in
local macro_rules | `(tactic| walk_at "s1") => `(tactic| first
  | refine we_isiLT ?_ | refine we_isiILT ?_ | refine wi_seqV (by rfl) (by rfl) ?_ | walk_at "s0" | refine ⟨true, by rfl, ?_⟩ | refine ⟨false, by rfl, ?_⟩ | refine we_ref ?_ | refine we_fld1 ?_ | refine ⟨_, _, _, _, rfl, T.n_Poly_prime, by rfl, ?_⟩ | refine ⟨_, _, _, _, rfl, T.n_Poly_row, by rfl, ?_⟩ | refine rc_isiB (r := true) (by rfl) ?_ | refine rc_isiO T.k_Poly ?_ | refine rc_isiN T.k_Poly (by rfl) ?_ | refine we_callF (by assumption) ?_ | refine we_callF (X := fun _ _ _ _ => False) xok0 ?_ | refine we_callFl (by assumption) ?_ | refine we_callFl (X := fun _ _ _ _ => False) xok0 ?_ | refine we_makeFl (by assumption) ?_ | refine we_makeFl (X := fun _ _ _ _ => False) xok0 ?_ | refine we_makeF (by assumption) ?_ | refine we_makeF (X := fun _ _ _ _ => False) xok0 ?_ | refine DX.ws_rs (by assumption) ?_ | refine wt_test ?_ | refine co_ret rfl (by rfl) ?_ | refine wg_nm (by rfl) ?_ | refine parB (by rfl) (by rfl) ?_ | refine szB (by rfl) ?_ | refine szL (by rfl) ?_ | refine brT2 (by rfl) ?_ | refine brF2 (by rfl) ?_ | refine brT3 (by rfl) ?_ | refine brF3 (by rfl) ?_ | refine rc_isiB (r := false) (by rfl) ?_)
theorem poly_inj {A : Ad} {p p' : Int} {r r' : List Int} (h : poly A p r = poly A p' r') : p = p' ∧ r = r' := by
  injection h with _ _ h
  injection h with h1 h2
  injection h1 with h1
  injection h2 with h2 _
  injection h2 with h2
  exact ⟨h1, iL_inj h2⟩
theorem ok_numbers (T : Tx P K mg A) : MetX P w K mg base 1 A.Poly "numbers" (SpNew K A.Poly "row") := by
  obtain ⟨f, fd, cl, me, F, bi⟩ := T.t_Poly_numbers
  refine ⟨f, fd, _, cl, me, F.okX sc_Poly_numbers (fun vs H Q E h => ?_) (fun cdv A' outer sh H vs Q E hr h => ⟨_, (pss_one (ps_ret (pe_callTy (DK.lst (K := K)) (by rfl) T.z_list (by decide +kernel) (pa_cons (DK.pe_fld (K := K) (pv 0)) pa_nil)))), ?_⟩), bi⟩
  · obtain ⟨_, _, _, _, _, rfl, _⟩ := h
    rfl
  · obtain ⟨a, dx, fs, r, xs, rfl, ha, hf, hs, q⟩ := h
    exact ⟨_, rfl, _, _, _, _, _, rfl, ha, T.n_Poly_row.1, T.n_Poly_row.2, hf, _, _, rfl, .inl hs, q⟩
noncomputable def gDeg (A : Ad) : List D → Option Out := gOf (fun x : Int × List Int => [poly A x.1 x.2]) (fun x => x.2.length ≤ 2000) fun x => .ret (.int ((x.2.length : Int) - 1))
theorem gDeg_eq {A : Ad} {p : Int} {r : List Int} (h : r.length ≤ 2000) : gDeg A [poly A p r] = some (.ret (.int ((r.length : Int) - 1))) :=
  gOf_eq (ar := fun x : Int × List Int => [poly A x.1 x.2]) (x := (p, r)) (fun x y e => by
    injection e with e _
    obtain ⟨h1, h2⟩ := poly_inj e
    exact Prod.ext h1 h2) h
theorem ok_degree (T : Tx P K mg A) : MetX P w K mg base 1 A.Poly "degree" (SpS K 1 (spcF (gDeg A))) := by
  obtain ⟨f, fd, cl, me, F, bi⟩ := T.t_Poly_degree
  refine ⟨f, fd, _, cl, me, fnS F sc_Poly_degree rfl (fun cdv A' outer sh H E hr => ⟨_, (pss_one (ps_ret (pe_op op_subK (pe_callB (DK.len (K := K)) (by rfl) T.z_len (by decide +kernel) (pa_cons (DK.pe_fld (K := K) (pv 0)) pa_nil)) pe_int))), fun R k0 ds b hp hl hE => ?_⟩), bi⟩
  obtain ⟨o, ho⟩ := hp
  obtain ⟨⟨p, r⟩, rfl, ok, rfl⟩ := gOf_inv ho
  dsimp only at ok ho hl hE ⊢
  repeat (walk_at "s1")
  refine rc_len (l := r.map D.int) rfl ?_
  repeat (walk_at "s1")
  refine ⟨?_, rfl⟩
  rw [List.length_map]
  exact ho
def worth (p n : Int) (r : List Int) : Int := r.reverse.foldl (fun f x => (f * n + x) % p) 0
noncomputable def gWorth : List D → Option Out := gOf (fun x : Int × Int × List Int => [iL x.2.2, .int x.2.1, .int x.1]) (fun x => 0 < x.1 ∧ x.1 ≤ 101 ∧ x.2.2.length ≤ 2000) fun x => .ret (.int (worth x.1 x.2.1 x.2.2))
theorem gWorth_eq {p n : Int} {r : List Int} (h1 : 0 < p) (h2 : p ≤ 101) (h3 : r.length ≤ 2000) : gWorth [iL r, .int n, .int p] = some (.ret (.int (worth p n r))) :=
  gOf_eq (ar := fun x : Int × Int × List Int => [iL x.2.2, .int x.2.1, .int x.1]) (x := (p, n, r)) (fun x y e => by
    injection e with e1 e
    injection e with e2 e
    injection e with e3 _
    injection e1 with e1
    injection e2 with e2
    injection e3 with e3
    exact Prod.ext e3 (Prod.ext e2 (iL_inj e1))) ⟨h1, h2, h3⟩
theorem ok_worth_at (T : Tx P K mg A) : CalX P w K mg base 1 "worth_at" (SpS K 3 (spcF gWorth)) := by
  obtain ⟨a, fd, F, m, bi⟩ := T.f_worth_at
  refine ⟨a, fd, _, fnS F sc_worth_at rfl (fun cdv A' outer sh H E hr => ⟨_, (pss_cons (ps_asg pe_int (pg_name (i := 3) sc_worth_at.nd rfl (by first | exact .inl rfl | exact .inr rfl)))
  (pss_cons (ps_for (passes_of rfl) rfl (DK.pi_seq (K := K) (DK.pe_revL (K := K) (pv 0))) (pg_name (i := 4) sc_worth_at.nd rfl (by first | exact .inl rfl | exact .inr rfl))
  (pss_one (ps_asg (pe_op op_modK (pe_op (DK.op_add (K := K)) (pe_op op_mulK (pv 3) (pv 1)) (pv 4)) (pv 2)) (pg_name (i := 3) sc_worth_at.nd rfl (by first | exact .inl rfl | exact .inr rfl)))))
  (pss_one (ps_ret (pv 3))))), fun R k0 ds b hp hl hE => ?_⟩), m, F.kp, bi⟩
  obtain ⟨o, ho⟩ := hp
  obtain ⟨⟨p, n, r⟩, rfl, ⟨h1, h2, h3⟩, rfl⟩ := gOf_inv ho
  repeat (walk_at "s1")
  refine ws_for (wi_seqL (we_revL ?_))
  repeat (walk_at "s1")
  rw [← List.map_reverse]
  refine ⟨fun i ς => ∃ x4, ς = { δ := [some (iL r), some (.int n), some (.int p), some (.int ((r.reverse.take i).foldl (fun f x => (f * n + x) % p) 0)), x4], b := b }, ⟨none, rfl⟩, ?_, ?_⟩
  · rintro i d ς hi ⟨x4, rfl⟩
    obtain ⟨x, rfl, hx⟩ := get_ints hi
    have hx : r.reverse[i]? = some x := by
      rw [List.getElem?_map] at hx
      cases e : r.reverse[i]? with
      | none => rw [e] at hx; cases hx
      | some y => rw [e] at hx; cases hx; rfl
    have st : (r.reverse.take (i + 1)).foldl (fun f x => (f * n + x) % p) 0 = ((r.reverse.take i).foldl (fun f x => (f * n + x) % p) 0 * n + x) % p := by
      rw [List.take_add_one, hx]
      simp
    have bd : ∀ l : List Int, 0 ≤ l.foldl (fun f x => (f * n + x) % p) 0 ∧ l.foldl (fun f x => (f * n + x) % p) 0 < p := fun l => by
      rcases List.eq_nil_or_concat l with rfl | ⟨l, y, rfl⟩
      · exact ⟨Int.le_refl 0, h1⟩
      · rw [List.concat_eq_append, List.foldl_append]
        exact ⟨Int.emod_nonneg _ (by omega), Int.emod_lt_of_pos _ h1⟩
    have bi := bd (r.reverse.take i)
    repeat (walk_at "s1")
    refine rd_mul (mul_small (by omega) (by omega)) ?_
    repeat (walk_at "s1")
    refine rd_mod h1 ?_
    rw [← st]
    repeat (walk_at "s1")
    exact ⟨_, rfl⟩
  · rintro ς ⟨x4, rfl⟩
    repeat (walk_at "s1")
    refine ⟨?_, rfl⟩
    rw [List.length_map, List.take_length]
    exact ho
noncomputable def gAt (A : Ad) : List D → Option Out := gOf (fun x : (Int × List Int) × D => [poly A x.1.1 x.1.2, x.2]) (fun x => isPrm x.1.1 = true ∧ x.1.2.length ≤ 2000 ∧ (tyN x.2).isSome = true)
  fun x => if isIntD x.2 = true then .ret (.int (worth x.1.1 (dI x.2) x.1.2)) else .exc A.BadNumber ["number"] [x.2]
theorem gAt_eq {A : Ad} {p : Int} {r : List Int} {d : D} (h1 : isPrm p = true) (h2 : r.length ≤ 2000) (h3 : (tyN d).isSome = true) : gAt A [poly A p r, d] = some (if isIntD d = true then .ret (.int (worth p (dI d) r)) else .exc A.BadNumber ["number"] [d]) :=
  gOf_eq (ar := fun x : (Int × List Int) × D => [poly A x.1.1 x.1.2, x.2]) (x := ((p, r), d)) (fun x y e => by
    injection e with e e2
    injection e2 with e2 _
    obtain ⟨h1, h2⟩ := poly_inj e
    exact Prod.ext (Prod.ext h1 h2) e2) ⟨h1, h2, h3⟩
theorem gNum_bad {A : Ad} {d : D} (h : (tyN d).isSome = true) (h2 : isIntD d = false) : gNum A [d] = some (.exc A.BadNumber ["number"] [d]) := by
  cases d <;> first | rfl | (cases h; done) | (cases h2; done)
theorem intD_of {d : D} (h : isIntD d = true) : ∃ i, d = .int i := by
  cases d <;> first | exact ⟨_, rfl⟩ | cases h
theorem ok_at (T : Tx P K mg A) : MetX P w K mg base 3 A.Poly "at" (SpS K 2 (spcF (gAt A))) := by
  have c_check_number := @ok_check_number P w K mg base A T
  have c_worth_at := @ok_worth_at P w K mg base A T
  obtain ⟨f, fd, cl, me, F, bi⟩ := T.t_Poly_at
  refine ⟨f, fd, _, cl, me, fnS F sc_Poly_at rfl (fun cdv A' outer sh H E hr => ⟨_, (pss_cons (ps_expr (pe_cx c_check_number hr (by omega) (by rfl) (passes_call (takes_of rfl rfl rfl rfl) (fun _ _ _ _ z => z)) (pa_cons (pv 1) pa_nil)))
  (pss_one (ps_ret (pe_cx c_worth_at hr (by omega) (by rfl) (passes_call (takes_of rfl rfl rfl rfl) (fun _ _ _ _ z => z)) (pa_cons (DK.pe_fld (K := K) (pv 0)) (pa_cons (pv 1) (pa_cons (DK.pe_fld (K := K) (pv 0)) pa_nil))))))), fun R k0 ds b hp hl hE => ?_⟩), bi⟩
  obtain ⟨o, ho⟩ := hp
  obtain ⟨⟨⟨p, r⟩, d⟩, rfl, ⟨h1, h2, h3⟩, rfl⟩ := gOf_inv ho
  have hx := xok_def hE
  have hX := xokW hx
  dsimp only at h1 h2 h3 ho hl hE hx hX ⊢
  obtain ⟨p1, p2⟩ := prm_le h1
  have bad : ∀ {C : Addr} {ns : List Str} {fs : List D}, gAt A [poly A p r, d] = some (.exc C ns fs) → (spcF (gAt A)).exc R [poly A p r, d] b C ns fs b := fun e => ⟨e, rfl⟩
  repeat (walk_at "s1")
  cases h0 : isIntD d with
  | false =>
    refine co_exc rfl (gNum_bad h3 h0) (bad ?_)
    have z := gAt_eq (A := A) h1 h2 h3
    rw [if_neg (by rw [h0]; exact Bool.false_ne_true)] at z
    exact z
  | true =>
    obtain ⟨n, rfl⟩ := intD_of h0
    repeat (walk_at "s1")
    refine co_ret rfl (gWorth_eq (by omega) p2 h2) ⟨?_, rfl⟩
    have z := gAt_eq (A := A) h1 h2 h3
    rw [if_pos h0] at z
    exact z
open Classical in
noncomputable def eqP (A : Ad) (p : Int) (r : List Int) (d : D) : Bool := decide (d = poly A p r)
theorem eqP_no {A : Ad} {p : Int} {r : List Int} {d : D} (h : d ≠ poly A p r) : eqP A p r d = false := @decide_eq_false _ (Classical.propDecidable _) h
theorem eqP_poly {A : Ad} {p p' : Int} {r r' : List Int} : eqP A p r (poly A p' r') = (decide (p = p') && decide (r = r')) := by
  by_cases h : poly A p' r' = poly A p r
  · obtain ⟨rfl, rfl⟩ := poly_inj h
    have e : eqP A p' r' (poly A p' r') = true := @decide_eq_true _ (Classical.propDecidable _) rfl
    rw [e]
    simp
  · rw [eqP_no h]
    by_cases e1 : p = p'
    · subst e1
      by_cases e2 : r = r'
      · subst e2
        exact absurd rfl h
      · simp [e2]
    · simp [e1]
noncomputable def gEq (A : Ad) : List D → Option Out := gOf (fun x : (Int × List Int) × D => [poly A x.1.1 x.1.2, x.2]) (fun x => (tyN x.2).isSome = true ∨ ∃ p r, x.2 = poly A p r) fun x => .ret (.bl (eqP A x.1.1 x.1.2 x.2))
theorem gEq_eq {A : Ad} {p : Int} {r : List Int} {d : D} (h : (tyN d).isSome = true ∨ ∃ p r, d = poly A p r) : gEq A [poly A p r, d] = some (.ret (.bl (eqP A p r d))) :=
  gOf_eq (ar := fun x : (Int × List Int) × D => [poly A x.1.1 x.1.2, x.2]) (x := ((p, r), d)) (fun x y e => by
    injection e with e e2
    injection e2 with e2 _
    obtain ⟨h1, h2⟩ := poly_inj e
    exact Prod.ext (Prod.ext h1 h2) e2) h
theorem ok_eq (T : Tx P K mg A) : MetX P w K mg base 1 A.Poly "__eq__" (SpS K 2 (spcF (gEq A))) := by
  obtain ⟨f, fd, cl, me, F, bi⟩ := T.t_Poly___eq__
  refine ⟨f, fd, _, cl, me, fnS F sc_Poly___eq__ rfl (fun cdv A' outer sh H E hr => ⟨_, (pss_one (ps_ret (pe_and (pe_callB (DK.isi (K := K)) (by rfl) T.z_isinstance (by decide +kernel) (pa_cons (pv 1) (pa_cons (pe_glob (v := V.ref _) (by rfl) T.m_Poly rfl) pa_nil))) (pe_and (pe_cmpR (DK.op_eq (K := K) (hr.units)) (DK.pe_fld (K := K) (pv 0)) (DK.pe_fld (K := K) (pv 1)) (nomark _)) (pe_one (pe_cmpR (DK.op_eq (K := K) (hr.units)) (DK.pe_fld (K := K) (pv 0)) (DK.pe_fld (K := K) (pv 1)) (nomark _))))))), fun R k0 ds b hp hl hE => ?_⟩), bi⟩
  obtain ⟨o, ho⟩ := hp
  obtain ⟨⟨⟨p, r⟩, d⟩, rfl, hd, rfl⟩ := gOf_inv ho
  dsimp only at hd ho hl hE ⊢
  rcases hd with hd | ⟨p', r', rfl⟩
  · have e : eqP A p r d = false := eqP_no fun z => by
      subst z
      cases hd
    rw [e] at ho
    repeat (walk_at "s1")
    refine rc_isiN T.k_Poly hd ?_
    repeat (walk_at "s1")
    exact ⟨ho, rfl⟩
  · rw [eqP_poly] at ho
    repeat (walk_at "s1")
    by_cases e : p = p'
    · rw [decide_eq_true e] at ho ⊢
      repeat (walk_at "s1")
      refine rd_eq_iL ?_
      exact ⟨ho, rfl⟩
    · rw [decide_eq_false e] at ho ⊢
      repeat (walk_at "s1")
      exact ⟨ho, rfl⟩
noncomputable def gLike (A : Ad) : List D → Option Out := gOf (fun x : (Int × List Int) × Int × List Int => [poly A x.1.1 x.1.2, poly A x.2.1 x.2.2]) (fun _ => True) fun x => if x.1.1 = x.2.1 then .ret .non else .exc A.UnlikePrimes [] []
theorem pp_inj {A : Ad} (x y : (Int × List Int) × Int × List Int) (e : [poly A x.1.1 x.1.2, poly A x.2.1 x.2.2] = [poly A y.1.1 y.1.2, poly A y.2.1 y.2.2]) : x = y := by
  injection e with e e2
  injection e2 with e2 _
  obtain ⟨h1, h2⟩ := poly_inj e
  obtain ⟨h3, h4⟩ := poly_inj e2
  exact Prod.ext (Prod.ext h1 h2) (Prod.ext h3 h4)
theorem gLike_eq {A : Ad} {p p' : Int} {r r' : List Int} : gLike A [poly A p r, poly A p' r'] = some (if p = p' then .ret .non else .exc A.UnlikePrimes [] []) := gOf_eq (x := ((p, r), p', r')) pp_inj trivial
theorem ok_check_like (T : Tx P K mg A) : CalX P w K mg base 1 "check_like" (SpS K 2 (spcF (gLike A))) := by
  obtain ⟨a, fd, F, m, bi⟩ := T.f_check_like
  refine ⟨a, fd, _, fnS F sc_check_like rfl (fun cdv A' outer sh H E hr => ⟨_, (pss_one (ps_if (pt_cmpR (DK.op_ne (K := K) (hr.units)) (DK.pe_fld (K := K) (pv 0)) (DK.pe_fld (K := K) (pv 1)) (nomark _))
  (pss_one (DX.ps_rs0 (takes_of rfl rfl rfl rfl) T.x_UnlikePrimes hr))
  pss_nil)), fun R k0 ds b hp hl hE => ?_⟩), m, F.kp, bi⟩
  obtain ⟨o, ho⟩ := hp
  obtain ⟨⟨⟨p, r⟩, p', r'⟩, rfl, _, rfl⟩ := gOf_inv ho
  have hx := xok_def hE
  have hX := xokW hx
  dsimp only at ho hl hE hx hX ⊢
  have bad : ∀ {C : Addr} {ns : List Str} {fs : List D}, gLike A [poly A p r, poly A p' r'] = some (.exc C ns fs) → (spcF (gLike A)).exc R [poly A p r, poly A p' r'] b C ns fs b := fun e => ⟨e, rfl⟩
  repeat (walk_at "s1")
  by_cases e : p = p'
  · subst e
    rw [if_pos rfl] at ho
    have e2 : (!decide (p = p)) = false := by simp
    rw [e2]
    repeat (walk_at "s1")
    exact ⟨ho, rfl⟩
  · rw [if_neg e] at ho
    have e2 : (!decide (p = p')) = true := by simp [e]
    rw [e2]
    repeat (walk_at "s1")
    exact ⟨rfl, bad ho⟩
/-- the sum of rows -/
def padL (n : Nat) (r : List Int) : List Int := r ++ List.replicate (n - r.length) 0
def addL (r r' : List Int) : List Int := List.zipWith (fun x y => x + y) (padL (max r.length r'.length) r) (padL (max r.length r'.length) r')
noncomputable def gAdd (A : Ad) : List D → Option Out := gOf (fun x : (Int × List Int) × Int × List Int => [poly A x.1.1 x.1.2, poly A x.2.1 x.2.2]) (fun x => isPrm x.1.1 = true ∧ x.1.2.length ≤ 500 ∧ x.2.2.length ≤ 500)
  fun x => if x.1.1 = x.2.1 then .ret (poly A x.1.1 (bare x.1.1 (addL x.1.2 x.2.2))) else .exc A.UnlikePrimes [] []
theorem gAdd_eq {A : Ad} {p p' : Int} {r r' : List Int} (h1 : isPrm p = true) (h2 : r.length ≤ 500) (h3 : r'.length ≤ 500) : gAdd A [poly A p r, poly A p' r'] = some (if p = p' then .ret (poly A p (bare p (addL r r'))) else .exc A.UnlikePrimes [] []) := gOf_eq (x := ((p, r), p', r')) pp_inj ⟨h1, h2, h3⟩
theorem rc_lenI {K : PySem.W.Frag} {Φ : D → Prop} {r : List Int} (q : Φ (.int (r.length : Int))) : RC K (rLenK K) [iL r] Φ := rc_len (l := r.map D.int) rfl (by rw [List.length_map]; exact q)
theorem rd_pad {K : PySem.W.Frag} {Φ : D → Prop} {r : List Int} {n : Nat} (hn : n ≤ 1000) (hr : r.length ≤ n) (q : Φ (iL (padL n r))) : RD K (rAddK K) (iL r) (.lst (List.replicate ((n : Int) - (r.length : Int)).toNat [D.int 0]).flatten) Φ := by
  have e : (List.replicate ((n : Int) - (r.length : Int)).toNat [D.int 0]).flatten = (List.replicate (n - r.length) (0 : Int)).map D.int := by
    rw [List.flatten_replicate_singleton, List.map_replicate]
    congr 1
    try omega
  rw [e]
  refine rd_add_lst (by rw [List.length_map, List.length_map, List.length_replicate, sizeLine_eq]; omega) ?_
  rw [← List.map_append]
  exact q
theorem zip_iL : ∀ a b : List Int, (zipD (a.map D.int) (b.map D.int)).map (fun d => match d with | .tup [.int x, .int y] => D.int (x + y) | _ => .non) = (List.zipWith (fun x y => x + y) a b).map D.int
  | [], _ => rfl
  | _ :: _, [] => rfl
  | x :: a, y :: b => by
    show _ :: (zipD (a.map D.int) (b.map D.int)).map _ = _ :: _
    rw [zip_iL a b]
    try rfl
theorem zip_get2 {a b : List Int} {d : D} (h : d ∈ zipD (a.map D.int) (b.map D.int)) : ∃ x y : Int, d = .tup [.int x, .int y] := by
  obtain ⟨i, hi, e⟩ := List.mem_iff_getElem.mp h
  obtain ⟨x, y, h1, h2, h3⟩ := zipD_get (l := a.map D.int) (m := b.map D.int) (i := i) (d := d) (by rw [List.getElem?_eq_getElem hi, e])
  obtain ⟨u, rfl, _⟩ := get_ints h1
  obtain ⟨v, rfl, _⟩ := get_ints h2
  exact ⟨u, v, h3⟩
theorem len_pad {n : Nat} {r : List Int} (h : r.length ≤ n) : (padL n r).length = n := by
  unfold padL
  rw [List.length_append, List.length_replicate]
  omega
theorem len_add {r r' : List Int} : (addL r r').length = max r.length r'.length := by
  unfold addL
  rw [List.length_zipWith, len_pad (Nat.le_max_left _ _), len_pad (Nat.le_max_right _ _), Nat.min_self]
theorem gPoly_ok {A : Ad} {p : Int} {xs : List Int} (h1 : isPrm p = true) (h2 : xs.length ≤ 1000) : gPoly A [.int p, iL xs] = some (.ok ["prime", "row"] [.int p, iL (bare p xs)]) := by
  have ty : typed (xs.map D.int) = true := List.all_eq_true.mpr fun d hd => by
    obtain ⟨x, _, rfl⟩ := List.mem_map.mp hd
    rfl
  have k : okO (iL xs) = true := by
    show (decide ((xs.map D.int).length ≤ 1000) && typed (xs.map D.int)) = true
    rw [ty, decide_eq_true (by rw [List.length_map]; exact h2)]
    rfl
  have e : gPoly A [.int p, iL xs] = some (gPolyB A (.int p) (iL xs)) := if_pos (by rw [k]; rfl)
  have o : oddD (iL xs) = .non := by
    show oddO (oddI (xs.map D.int) 0) = .non
    rw [oddI_ints]
    rfl
  have ei : intsD (iL xs) = xs := by
    show (xs.map D.int).map dI = xs
    rw [List.map_map]
    exact (List.map_congr_left fun _ _ => rfl).trans (List.map_id' xs)
  rw [e]
  simp only [gPolyB, h1, o, ei, if_true]
theorem ok_add (T : Tx P K mg A) : MetX P w K mg base 5 A.Poly "__add__" (SpS K 2 (spcF (gAdd A))) := by
  have c_check_like := @ok_check_like P w K mg base A T
  have c_Poly := @ok_Poly P w K mg base A T
  obtain ⟨f, fd, cl, me, F, bi⟩ := T.t_Poly___add__
  refine ⟨f, fd, _, cl, me, fnS F sc_Poly___add__ rfl (fun cdv A' outer sh H E hr => ⟨_, (pss_cons (ps_expr (pe_cx c_check_like hr (by omega) (by rfl) (passes_call (takes_of rfl rfl rfl rfl) (fun _ _ _ _ z => z)) (pa_cons (pv 0) (pa_cons (pv 1) pa_nil))))
  (pss_cons (ps_asg (pe_callB (call_max2 rfl) (by rfl) T.z_max (by decide +kernel) (pa_cons (pe_callB (DK.len (K := K)) (by rfl) T.z_len (by decide +kernel) (pa_cons (DK.pe_fld (K := K) (pv 0)) pa_nil)) (pa_cons (pe_callB (DK.len (K := K)) (by rfl) T.z_len (by decide +kernel) (pa_cons (DK.pe_fld (K := K) (pv 1)) pa_nil)) pa_nil))) (pg_name (i := 2) sc_Poly___add__.nd rfl (by first | exact .inl rfl | exact .inr rfl)))
  (pss_cons (ps_par (by rfl) sc_Poly___add__.nd (i := 3) (j := 4) rfl rfl (by decide) rfl rfl (pa_cons (pe_op (DK.op_add (K := K)) (DK.pe_fld (K := K) (pv 0)) (pe_op op_mulK (pe_lst (pa_cons pe_int pa_nil)) (pe_op op_subK (pv 2) (pe_callB (DK.len (K := K)) (by rfl) T.z_len (by decide +kernel) (pa_cons (DK.pe_fld (K := K) (pv 0)) pa_nil))))) (pa_cons (pe_op (DK.op_add (K := K)) (DK.pe_fld (K := K) (pv 1)) (pe_op op_mulK (pe_lst (pa_cons pe_int pa_nil)) (pe_op op_subK (pv 2) (pe_callB (DK.len (K := K)) (by rfl) T.z_len (by decide +kernel) (pa_cons (DK.pe_fld (K := K) (pv 1)) pa_nil))))) pa_nil)) (by rfl))
  (pss_one (ps_ret (pe_mkx c_Poly hr (by omega) (by rfl) (passes_call (takes_of rfl rfl rfl rfl) (fun _ _ _ _ z => z)) (pa_cons (DK.pe_fld (K := K) (pv 0)) (pa_cons (pe_lc (own := [("x", 5), ("y", 6)]) (g := (gTup K 2 (gCons (gName 5) (gCons (gName 6) gNil)))) (tt := tYes) rfl sc_Poly___add__.nd (DK.pi_zip (K := K) (by rfl) T.z_zip (pa_cons (pv 3) (pa_cons (pv 4) pa_nil))) (blkOk_by (own := [("x", 5), ("y", 6)]) (N := n_Poly___add__) (sc := (defScope s_Poly___add__)) (by first | decide +kernel | kernel_rfl)) (fun _ _ _ _ _ => (DK.pg_tup (K := K) rfl (pgs_cons (pg_name (i := 5) sc_Poly___add__.nd rfl (by first | exact .inl rfl | exact .inr rfl)) (pgs_cons (pg_name (i := 6) sc_Poly___add__.nd rfl (by first | exact .inl rfl | exact .inr rfl)) pgs_nil)))) (fun _ _ _ _ _ => pts_nil) (fun _ _ _ _ _ => (pe_op (DK.op_add (K := K)) (pv 5) (pv 6)))) pa_nil)))))))), fun R k0 ds b hp hl hE => ?_⟩), bi⟩
  obtain ⟨o, ho⟩ := hp
  obtain ⟨⟨⟨p, r⟩, p', r'⟩, rfl, ⟨h1, h2, h3⟩, rfl⟩ := gOf_inv ho
  have hx := xok_def hE
  have hX := xokW hx
  dsimp only at h1 h2 h3 ho hl hE hx hX ⊢
  have bad : ∀ {C : Addr} {ns : List Str} {fs : List D}, gAdd A [poly A p r, poly A p' r'] = some (.exc C ns fs) → (spcF (gAdd A)).exc R [poly A p r, poly A p' r'] b C ns fs b := fun e => ⟨e, rfl⟩
  repeat (walk_at "s1")
  by_cases e : p = p'
  · subst e
    rw [if_pos rfl] at ho
    have gl := gLike_eq (A := A) (p := p) (p' := p) (r := r) (r' := r')
    rw [if_pos rfl] at gl
    refine co_ret rfl gl ?_
    repeat (walk_at "s1")
    have en : (if (r'.length : Int) > (r.length : Int) then (r'.length : Int) else (r.length : Int)) = ((max r.length r'.length : Nat) : Int) := by
      split <;> omega
    refine rc_lenI ?_
    repeat (walk_at "s1")
    refine rc_lenI ?_
    repeat (walk_at "s1")
    refine rc_max2 ?_
    rw [en]
    have m1 := Nat.le_max_left r.length r'.length
    have m2 := Nat.le_max_right r.length r'.length
    have m3 : max r.length r'.length ≤ 500 := by omega
    have ea : addL r r' = List.zipWith (fun x y => x + y) (padL (max r.length r'.length) r) (padL (max r.length r'.length) r') := rfl
    generalize max r.length r'.length = n at m1 m2 m3 ea
    repeat (walk_at "s1")
    refine rc_lenI ?_
    repeat (walk_at "s1")
    refine rd_rep (by omega) (by omega) (by rw [sizeLine_eq]; show 1 * _ ≤ _; omega) ?_
    refine rd_pad (by omega) m1 ?_
    repeat (walk_at "s1")
    refine rc_lenI ?_
    repeat (walk_at "s1")
    refine rd_rep (by omega) (by omega) (by rw [sizeLine_eq]; show 1 * _ ≤ _; omega) ?_
    refine rd_pad (by omega) m2 ?_
    repeat (walk_at "s1")
    refine we_lcM (kg_tup (kgs_cons (by decide) (kgs_cons (by decide) kgs_nil))) ?_
    refine wi_zip ?_
    repeat (walk_at "s1")
    refine ⟨_, _, rfl, fun d => (match d with | .tup [.int x, .int y] => D.int (x + y) | _ => .non), lt_size (by unfold zipD; rw [List.length_map, List.length_zip, List.length_map, List.length_map, len_pad m1, len_pad m2]; omega), fun d hd oo acc => ?_, ?_⟩
    · obtain ⟨x, y, rfl⟩ := zip_get2 hd
      refine wg_tup rfl ?_
      repeat (walk_at "s1")
      exact ⟨rfl, rfl, rfl⟩
    · rw [zip_iL, ← ea]
      have l3 : (addL r r').length ≤ 1000 := by rw [ea, List.length_zipWith, len_pad m1, len_pad m2]; omega
      repeat (walk_at "s1")
      refine mk_ok rfl (gPoly_ok h1 l3) ?_
      exact ⟨ho, rfl⟩
  · rw [if_neg e] at ho
    have gl := gLike_eq (A := A) (p := p) (p' := p') (r := r) (r' := r')
    rw [if_neg e] at gl
    exact co_exc rfl gl (bad ho)
end
end K10

set_option Elab.async false
set_option linter.all false
set_option maxRecDepth 100000
set_option maxHeartbeats 4000000
namespace K10
open PySem PySem.Spec PyProof.Rows L2 DL
section
variable {P : Program} {w : World} {K : PySem.W.Frag} {mg : Str → Option Value} {base : Heap} {A : Ad}
local macro_rules | `(tactic| walk_at "s0") => `(tactic| with_reducible first
  | refine ws_seq ?_ | refine ws_next ?_ | refine ws_ret ?_ | refine ws_retN ?_ | refine ws_if ?_ | refine ws_asg ?_ | refine ws_drop ?_ | refine ws_par ?_ | refine ws_break ?_ | refine ws_cont ?_
  | refine we_var rfl ?_ | refine we_int ?_ | refine we_non ?_ | refine we_bl ?_ | refine we_str ?_ | refine we_ty ?_ | refine we_dnew ?_ | refine we_op ?_ | refine we_un ?_
  | refine we_and ?_ | refine we_or ?_ | refine we_not ?_ | refine we_if ?_ | refine we_chain ?_ | refine we_cb ?_ | refine we_tup ?_ | refine we_lst ?_
  | refine wl_cons ?_ | refine wl_nil ?_ | refine wt_B ?_ | refine wt_test ?_ | refine wt_and ?_ | refine wt_or ?_ | refine wt_not ?_ | refine wt_yes ?_
  | refine wi_tup ?_ | refine wi_list ?_ | refine wg_tup rfl ?_ | refine wgs_cons ?_ | refine wgs_nil ?_
  | refine rd_add_int ?_ | refine rd_sub ?_ | refine rd_lt ?_ | refine rd_le ?_ | refine rd_gt ?_ | refine rd_ge ?_ | refine rd_eq_int ?_ | refine rd_ne_int ?_ | refine rd_eq_str ?_ | refine rd_ne_str ?_ | refine rd_eq_bl ?_ | refine rd_ne_bl ?_ | refine rd_is ?_ | refine rd_is_bl ?_ | refine rd_isnot ?_ | refine ru_neg ?_
  | refine rc_int ?_ | refine rc_abs ?_ | refine rc_anyF ?_ | refine rc_allF ?_
  | refine brT ?_ | refine brF ?_ | refine brT' ?_ | refine brF' ?_
  | refine ⟨_, rfl, ?_⟩)
set_option hygiene false in
local macro_rules | `(tactic| walk_at "s1") => `(tactic| first
  | refine we_isiLT ?_ | refine we_isiILT ?_ | refine wi_seqV (by rfl) (by rfl) ?_ | walk_at "s0" | refine ⟨true, by rfl, ?_⟩ | refine ⟨false, by rfl, ?_⟩ | refine we_ref ?_ | refine we_fld1 ?_ | refine ⟨_, _, _, _, rfl, T.n_Poly_prime, by rfl, ?_⟩ | refine ⟨_, _, _, _, rfl, T.n_Poly_row, by rfl, ?_⟩ | refine rc_isiB (r := true) (by rfl) ?_ | refine rc_isiO T.k_Poly ?_ | refine rc_isiN T.k_Poly (by rfl) ?_ | refine we_callF (by assumption) ?_ | refine we_callF (X := fun _ _ _ _ => False) xok0 ?_ | refine we_callFl (by assumption) ?_ | refine we_callFl (X := fun _ _ _ _ => False) xok0 ?_ | refine we_makeFl (by assumption) ?_ | refine we_makeFl (X := fun _ _ _ _ => False) xok0 ?_ | refine we_makeF (by assumption) ?_ | refine we_makeF (X := fun _ _ _ _ => False) xok0 ?_ | refine DX.ws_rs (by assumption) ?_ | refine wt_test ?_ | refine co_ret rfl (by rfl) ?_ | refine wg_nm (by rfl) ?_ | refine parB (by rfl) (by rfl) ?_ | refine szB (by rfl) ?_ | refine szL (by rfl) ?_ | refine brT2 (by rfl) ?_ | refine brF2 (by rfl) ?_ | refine brT3 (by rfl) ?_ | refine brF3 (by rfl) ?_ | refine rc_isiB (r := false) (by rfl) ?_)
theorem ok_start (T : Tx P K mg A) : CalX P w K mg base 1 "_law_start" (spStart K) := by
  obtain ⟨a, fd, F, m, bi⟩ := T.f__law_start
  refine ⟨a, fd, _, F.okX sc__law_start (fun vs H Q E h => ?_) (fun cdv A' outer sh H vs Q E hr h => ⟨_, (pss_one (ps_ret (pe_lst (pa_cons (pe_callTy (DK.lst (K := K)) (by rfl) T.z_list (by decide +kernel) (pa_cons (pv 0) pa_nil)) (pa_cons pe_int (pa_cons pe_int (pa_cons pe_int pa_nil))))))), ?_⟩), m, F.kp, bi⟩
  · obtain ⟨a, ns, rfl, _⟩ := h
    rfl
  · obtain ⟨a, ns, rfl, hs, q⟩ := h
    refine ⟨_, rfl, a, _, rfl, .inl hs, fun l hl => ⟨by rw [sizeLine_eq]; show 4 ≤ _; omega, fun s hs => ?_⟩⟩
    have ne : l ≠ s := fun e => by rw [← e, upd_same] at hs; cases hs
    rw [upd_ne (Ne.symm ne)] at hs
    exact q l s hl hs ne
local macro_rules | `(tactic| walk_at "d1") => `(tactic| first
  | refine we_s0 (by rfl) (by rfl) ?_ | refine we_s1 (by rfl) (by rfl) ?_ | refine we_s2 (by rfl) (by rfl) ?_ | refine we_s3 (by rfl) (by rfl) ?_
  | refine wg_s1 (fun _ _ _ _ z => z) (by rfl) (by rfl) ?_ | refine wg_s2 (fun _ _ _ _ z => z) (by rfl) (by rfl) ?_ | refine wg_s3 (fun _ _ _ _ z => z) (by rfl) (by rfl) ?_ | walk_at "s1")
theorem ok_draw (T : Tx P K mg A) : CalX P w K mg base 1 "_law_draw" (SpS K 2 (drawSpc (fun as b => ∃ n : Int, as = [.int n] ∧ 0 < n ∧ n ≤ 1000000 ∧ b ≤ 1000000000000) (fun as b d b' => ∃ n x : Int, as = [.int n] ∧ d = .int x ∧ 0 ≤ x ∧ x < n ∧ b' = b + 1))) := by
  obtain ⟨a, fd, F, m, bi⟩ := T.f__law_draw
  refine ⟨a, fd, _, fn_strm F sc__law_draw rfl (fun cdv A' outer sh H E hr => ⟨_, (pss_cons (ps_asg (pe_op (DK.op_add (K := K)) (pe_ix (DK.ix (K := K)) (pv 0) pe_int (fun _ _ => rfl)) pe_int) (pg_sub (pv 0) pe_int set_list))
  (pss_cons (ps_if (PW.pt (pw_and (pt_cmpR (DK.op_eq (K := K) (hr.units)) (pe_ix (DK.ix (K := K)) (pv 0) pe_int (fun _ _ => rfl)) pe_int (nomark _)) (pw_and1 (pt_cmpR (DK.op_ne (K := K) (hr.units)) (pe_ix (DK.ix (K := K)) (pv 0) pe_int (fun _ _ => rfl)) (pe_lst pa_nil) (nomark _)))))
  (pss_cons (ps_asg (pe_bm PySem.F.plainAttrs_list PySem.F.slot_list_pop PySem.F.type_list_pop mt_popAt (pe_ix (DK.ix (K := K)) (pv 0) pe_int (fun _ _ => rfl)) (pa_cons pe_int pa_nil)) (pg_name (i := 3) sc__law_draw.nd rfl (by first | exact .inl rfl | exact .inr rfl)))
  (pss_cons (ps_asg (pe_op op_modK (pe_callTy call_intK (by rfl) T.z_int (by decide +kernel) (pa_cons (pe_op (DK.op_add (K := K)) (pe_op (DK.op_add (K := K)) (pe_op op_mulK (pe_ix (DK.ix (K := K)) (pv 0) pe_int (fun _ _ => rfl)) pe_int) (pv 3)) pe_int) pa_nil)) pe_int) (pg_sub (pv 0) pe_int set_list))
  (pss_one (ps_asg (pe_ifExp (pt_cmpR op_geK (pv 3) (pe_op op_powK pe_int pe_int) (nomark _)) (pv 3) pe_int) (pg_sub (pv 0) pe_int set_list)))))
  pss_nil)
  (pss_cons (ps_if (pt_cmpR op_gtK (pe_ix (DK.ix (K := K)) (pv 0) pe_int (fun _ _ => rfl)) pe_int (nomark _))
  (pss_cons (ps_asg (pe_op op_modK (pe_callTy call_intK (by rfl) T.z_int (by decide +kernel) (pa_cons (pe_ix (DK.ix (K := K)) (pv 0) pe_int (fun _ _ => rfl)) pa_nil)) (pv 1)) (pg_name (i := 4) sc__law_draw.nd rfl (by first | exact .inl rfl | exact .inr rfl)))
  (pss_cons (ps_asg (pe_op op_divK (pe_ix (DK.ix (K := K)) (pv 0) pe_int (fun _ _ => rfl)) (pv 1)) (pg_sub (pv 0) pe_int set_list))
  (pss_one (ps_ret (pv 4)))))
  pss_nil)
  (pss_cons (ps_asg (pe_op op_modK (pe_callTy call_intK (by rfl) T.z_int (by decide +kernel) (pa_cons (pe_op op_powK (pe_op (DK.op_add (K := K)) (pe_op (DK.op_add (K := K)) (pe_ix (DK.ix (K := K)) (pv 0) pe_int (fun _ _ => rfl)) (pe_op op_mulK pe_int (pe_ix (DK.ix (K := K)) (pv 0) pe_int (fun _ _ => rfl)))) pe_int) pe_int) pa_nil)) pe_int) (pg_name (i := 2) sc__law_draw.nd rfl (by first | exact .inl rfl | exact .inr rfl)))
  (pss_one (ps_ret (pe_op op_modK (pe_op op_modK (pe_callTy call_intK (by rfl) T.z_int (by decide +kernel) (pa_cons (pe_op op_powK (pe_op (DK.op_add (K := K)) (pe_op (DK.op_add (K := K)) (pe_op op_mulK (pv 2) pe_int) (pe_op op_mulK pe_int (pe_ix (DK.ix (K := K)) (pv 0) pe_int (fun _ _ => rfl)))) pe_int) pe_int) pa_nil)) pe_int) (pv 1)))))))), fun a l k0 as b cells x nn m hp hl n1 n2 m1 m2 => ?_⟩), m, F.kp, bi⟩
  obtain ⟨n, rfl, hn1, hn2, hb⟩ := hp
  repeat (walk_at "d1")
  -- behind the script's number, if one is read
  have rest : ∀ (cells' : List Int) (x' m' : Int) (cl : Option D), 0 ≤ m' → m' < 2147483647 →
      WS ⟨K, wres a l, k0, H, false, fun _ => none⟩ (tSeq (tIfS (tTest (tOp rGtK (tOp (rIxK K) (tVar 0) (tC (V.int 1))) (tC (V.int 0))))
                        (tSeq
                          (tAsg (tOp rModK (tCB rIntK (tCons (tOp (rIxK K) (tVar 0) (tC (V.int 1))) tNil)) (tVar 1))
                            (gName 4))
                          (tSeq
                            (tAsg (tOp rDivK (tOp (rIxK K) (tVar 0) (tC (V.int 1))) (tVar 1))
                              (gSub (tVar 0) (tC (V.int 1)) rSetL))
                            (tRet (tVar 4))))
                        tNext)
                      (tSeq
                        (tAsg
                          (tOp rModK
                            (tCB rIntK
                              (tCons
                                (tOp rPowK
                                  (tOp (rAddK K)
                                    (tOp (rAddK K) (tOp (rIxK K) (tVar 0) (tC (V.int 3)))
                                      (tOp rMulK (tC (V.int 7919)) (tOp (rIxK K) (tVar 0) (tC (V.int 2)))))
                                    (tC (V.int 104729)))
                                  (tC (V.int 5)))
                                tNil))
                            (tC (V.int 2147483629)))
                          (gName 2))
                        (tRet
                          (tOp rModK
                            (tOp rModK
                              (tCB rIntK
                                (tCons
                                  (tOp rPowK
                                    (tOp (rAddK K)
                                      (tOp (rAddK K) (tOp rMulK (tVar 2) (tC (V.int 48271)))
                                        (tOp rMulK (tC (V.int 30011)) (tOp (rIxK K) (tVar 0) (tC (V.int 2)))))
                                      (tC (V.int 29)))
                                    (tC (V.int 3)))
                                  tNil))
                              (tC (V.int 1000000007)))
                            (tVar 1)))))
        { δ := [some (.ref a), some (.int n), none, cl, none], m := StM a l cells' x' (nn + 1) m', b := 0 }
        { nx := fun _ => False, rt := fun d ς => ∃ cells' x' n' m' b', ς.m = StM a l cells' x' n' m' ∧ 0 ≤ n' ∧ n' ≤ (b' : Nat) ∧ 0 ≤ m' ∧ m' < 2147483647 ∧ (∃ n_1 x : Int, [D.int n] = [.int n_1] ∧ d = .int x ∧ 0 ≤ x ∧ x < n_1 ∧ b' = b + 1) } := fun cells' x' m' cl q1 q2 => by
    repeat (walk_at "d1")
    have lg : n.natAbs.log2 < 9000 := Nat.lt_trans ((Nat.log2_lt (k := 20) (by omega)).mpr (by omega)) (by decide)
    refine brD (fun h => ?_) (fun h => ?_)
    · repeat (walk_at "d1")
      refine rd_mod hn1 ?_
      repeat (walk_at "d1")
      refine rd_div ⟨hn1, lg⟩ ?_
      repeat (walk_at "d1")
      exact ⟨cells', x' / n, nn + 1, m', b + 1, rfl, by omega, by omega, q1, q2, n, x' % n, rfl, rfl, Int.emod_nonneg _ (by omega), Int.emod_lt_of_pos _ hn1, rfl⟩
    · repeat (walk_at "d1")
      refine rd_mul (mul_small (by omega) (by omega)) ?_
      repeat (walk_at "d1")
      refine rd_pow ⟨by omega, by omega, by omega⟩ ?_
      repeat (walk_at "d1")
      refine rd_mod (by omega) ?_
      have y1 : 0 ≤ (m' + 7919 * (nn + 1) + 104729) ^ (5 : Int).toNat % 2147483629 := Int.emod_nonneg _ (by omega)
      have y2 : (m' + 7919 * (nn + 1) + 104729) ^ (5 : Int).toNat % 2147483629 < 2147483629 := Int.emod_lt_of_pos _ (by omega)
      generalize (m' + 7919 * (nn + 1) + 104729) ^ (5 : Int).toNat % 2147483629 = y at y1 y2
      repeat (walk_at "d1")
      refine rd_mul (mul_small (by omega) (by omega)) ?_
      repeat (walk_at "d1")
      refine rd_mul (mul_small (by omega) (by omega)) ?_
      repeat (walk_at "d1")
      refine rd_pow ⟨by omega, by omega, by omega⟩ ?_
      repeat (walk_at "d1")
      refine rd_mod (by omega) ?_
      repeat (walk_at "d1")
      refine rd_mod hn1 ?_
      exact ⟨cells', x', nn + 1, m', b + 1, rfl, by omega, by omega, q1, q2, n, _, rfl, rfl, Int.emod_nonneg _ (by omega), Int.emod_lt_of_pos _ hn1, rfl⟩
  refine brD (fun hx => ?_) (fun hx => ?_)
  · refine wt_test ?_
    refine we_sne (l := l) (cells := cells) ?_
    repeat (walk_at "d1")
    refine ⟨rfl, rfl, ?_⟩
    repeat (walk_at "d1")
    cases cells with
    | nil =>
      repeat first | exact rest [] x m none m1 m2 | walk_at "d1"
    | cons cc cells =>
      repeat (walk_at "d1")
      refine we_spop (l := l) (cc := cc) (cells := cells) (fun _ _ _ _ z => z) ?_
      repeat (walk_at "d1")
      refine ⟨rfl, rfl, ?_⟩
      repeat (walk_at "d1")
      refine rd_mul (mul_small (by omega) (by omega)) ?_
      repeat (walk_at "d1")
      refine rd_mod (by omega) ?_
      have y1 : 0 ≤ (m * 8191 + cc + 3) % 2147483647 := Int.emod_nonneg _ (by omega)
      have y2 : (m * 8191 + cc + 3) % 2147483647 < 2147483647 := Int.emod_lt_of_pos _ (by omega)
      generalize (m * 8191 + cc + 3) % 2147483647 = y at y1 y2
      repeat (walk_at "d1")
      refine rd_pow ⟨by omega, by omega, by omega⟩ ?_
      repeat (walk_at "d1")
      refine brD (fun hc => ?_) (fun hc => ?_)
      · repeat first | exact rest cells cc y _ y1 y2 | walk_at "d1"
      · repeat first | exact rest cells 0 y _ y1 y2 | walk_at "d1"
  · repeat first | exact rest cells x m none m1 m2 | walk_at "d1"
theorem ok_pick (T : Tx P K mg A) : CalX P w K mg base 2 "_law_pick" (SpS K 2 (drawSpc (fun as b => ∃ l : List D, as = [.lst l] ∧ 0 < l.length ∧ l.length ≤ 1000000 ∧ b ≤ 1000000000000) (fun as b d b' => ∃ l : List D, as = [.lst l] ∧ d ∈ l ∧ b' = b + 1))) := by
  have c__law_draw := @ok_draw P w K mg base A T
  obtain ⟨a, fd, F, m, bi⟩ := T.f__law_pick
  refine ⟨a, fd, _, fnS F sc__law_pick rfl (fun cdv A' outer sh H E hr => ⟨_, (pss_one (ps_ret (pe_ix (DK.ix (K := K)) (pv 1) (pe_cx c__law_draw hr (by omega) (by rfl) (passes_call (takes_of rfl rfl rfl rfl) (fun _ _ _ _ z => z)) (pa_cons (pv 0) (pa_cons (pe_callB (DK.len (K := K)) (by rfl) T.z_len (by decide +kernel) (pa_cons (pv 1) pa_nil)) pa_nil))) (fun _ _ => rfl)))), fun R k0 ds b hp hl hE => ?_⟩), m, F.kp, bi⟩
  obtain ⟨aa, l, as, rfl, rfl, ll, rfl, l1, l2, hb⟩ := hp
  repeat (walk_at "s1")
  refine we_callR (SubR.self rfl) (X := fun _ _ _ _ => False) xok0 ?_
  repeat (walk_at "s1")
  refine rc_len (l := ll) rfl ?_
  repeat (walk_at "s1")
  refine ⟨rfl, ⟨aa, l, _, rfl, rfl, ll.length, rfl, by omega, by omega, hb⟩, ?_, fun _ _ _ _ z => z⟩
  rintro d b' ⟨a2, as2, e2, n, x, e3, rfl, x1, x2, rfl⟩
  cases e2
  cases e3
  obtain ⟨i, rfl⟩ := Int.eq_ofNat_of_zero_le x1
  have hi : i < ll.length := by omega
  refine rd_ix (d := ll[i]) rfl (DL.atI_nat (by simp [hi])) ?_
  exact ⟨aa, _, rfl, ll, rfl, List.getElem_mem hi, rfl⟩
end
end K10

set_option Elab.async false
set_option linter.all false
set_option maxRecDepth 100000
set_option maxHeartbeats 4000000
namespace K10
open PySem PySem.Spec PyProof.Rows L2 DL
section
variable {P : Program} {w : World} {K : PySem.W.Frag} {mg : Str → Option Value} {base : Heap} {A : Ad}
local macro_rules | `(tactic| walk_at "s0") => `(tactic| with_reducible first
  | refine ws_seq ?_ | refine ws_next ?_ | refine ws_ret ?_ | refine ws_retN ?_ | refine ws_if ?_ | refine ws_asg ?_ | refine ws_drop ?_ | refine ws_par ?_ | refine ws_break ?_ | refine ws_cont ?_
  | refine we_var rfl ?_ | refine we_int ?_ | refine we_non ?_ | refine we_bl ?_ | refine we_str ?_ | refine we_ty ?_ | refine we_dnew ?_ | refine we_op ?_ | refine we_un ?_
  | refine we_and ?_ | refine we_or ?_ | refine we_not ?_ | refine we_if ?_ | refine we_chain ?_ | refine we_cb ?_ | refine we_tup ?_ | refine we_lst ?_
  | refine wl_cons ?_ | refine wl_nil ?_ | refine wt_B ?_ | refine wt_test ?_ | refine wt_and ?_ | refine wt_or ?_ | refine wt_not ?_ | refine wt_yes ?_
  | refine wi_tup ?_ | refine wi_list ?_ | refine wg_tup rfl ?_ | refine wgs_cons ?_ | refine wgs_nil ?_
  | refine rd_add_int ?_ | refine rd_sub ?_ | refine rd_lt ?_ | refine rd_le ?_ | refine rd_gt ?_ | refine rd_ge ?_ | refine rd_eq_int ?_ | refine rd_ne_int ?_ | refine rd_eq_str ?_ | refine rd_ne_str ?_ | refine rd_eq_bl ?_ | refine rd_ne_bl ?_ | refine rd_is ?_ | refine rd_is_bl ?_ | refine rd_isnot ?_ | refine ru_neg ?_
  | refine rc_int ?_ | refine rc_abs ?_ | refine rc_anyF ?_ | refine rc_allF ?_
  | refine brT ?_ | refine brF ?_ | refine brT' ?_ | refine brF' ?_
  | refine ⟨_, rfl, ?_⟩)
set_option hygiene false in
local macro_rules | `(tactic| walk_at "s1") => `(tactic| first
  | refine we_isiLT ?_ | refine we_isiILT ?_ | refine wi_seqV (by rfl) (by rfl) ?_ | walk_at "s0" | refine ⟨true, by rfl, ?_⟩ | refine ⟨false, by rfl, ?_⟩ | refine we_ref ?_ | refine we_fld1 ?_ | refine ⟨_, _, _, _, rfl, T.n_Poly_prime, by rfl, ?_⟩ | refine ⟨_, _, _, _, rfl, T.n_Poly_row, by rfl, ?_⟩ | refine rc_isiB (r := true) (by rfl) ?_ | refine rc_isiO T.k_Poly ?_ | refine rc_isiN T.k_Poly (by rfl) ?_ | refine we_callF (by assumption) ?_ | refine we_callF (X := fun _ _ _ _ => False) xok0 ?_ | refine we_callFl (by assumption) ?_ | refine we_callFl (X := fun _ _ _ _ => False) xok0 ?_ | refine we_makeFl (by assumption) ?_ | refine we_makeFl (X := fun _ _ _ _ => False) xok0 ?_ | refine we_makeF (by assumption) ?_ | refine we_makeF (X := fun _ _ _ _ => False) xok0 ?_ | refine DX.ws_rs (by assumption) ?_ | refine wt_test ?_ | refine co_ret rfl (by rfl) ?_ | refine wg_nm (by rfl) ?_ | refine parB (by rfl) (by rfl) ?_ | refine szB (by rfl) ?_ | refine szL (by rfl) ?_ | refine brT2 (by rfl) ?_ | refine brF2 (by rfl) ?_ | refine brT3 (by rfl) ?_ | refine brF3 (by rfl) ?_ | refine rc_isiB (r := false) (by rfl) ?_)
theorem cal_none {x : Str} {st : Stmt} {N ps : List Str} {k n : Nat} (h : ∃ (a : Addr) (fd : FuncData), Fun K x x st a fd ∧ mg x = some (.ref a) ∧ L2.Binds K fd ps []) (S : FnScope N ps (defScope st)) {s : Spc} (hs : ∀ R ds b, ¬ s.pre R ds b) : CalX P w K mg base (k + 1) x (SpS K n s) := by
  obtain ⟨a, fd, F, m, bi⟩ := h
  have no : ∀ vs H Q E, ¬ SpS K n s vs H Q E := fun vs H Q E h => by
    obtain ⟨_, R, k0, ds, b, _, _, _, _, h1, _⟩ := h
    exact hs R ds b h1
  exact ⟨a, fd, ps, F.okX S (fun vs H Q E h => (no _ _ _ _ h).elim) (fun cdv A outer s H vs Q E hr h => (no _ _ _ _ h).elim), m, F.kp, bi⟩
/-- what is frozen: lists and tuples as tuples -/
def frozD : Nat → D → Option D
  | 0, _ => none
  | n + 1, d => match d with
    | .dct [] [] => some (.dct [] [])
    | .lst l => if l.length ≤ 1000 ∧ l.all (fun x => (frozD n x).isSome) = true then some (.tup (l.map fun x => (frozD n x).getD .non)) else none
    | .tup l => if l.length ≤ 1000 ∧ l.all (fun x => (frozD n x).isSome) = true then some (.tup (l.map fun x => (frozD n x).getD .non)) else none
    | .non => some .non
    | .bl b => some (.bl b)
    | .int i => some (.int i)
    | .str x => some (.str x)
    | _ => none
def gFroz (n : Nat) : List D → Option Out
  | [d] => (frozD n d).map .ret
  | _ => none
theorem ok_frozen (T : Tx P K mg A) : ∀ n, CalX P w K mg base (n + 1) "_law_frozen" (SpS K 1 (spcF (gFroz n)))
  | 0 => cal_none T.f__law_frozen sc__law_frozen fun R ds b ⟨o, h⟩ => by
    unfold gFroz at h
    split at h <;> cases h
  | n + 1 => by
    have c__law_frozen := ok_frozen T n
    obtain ⟨a, fd, F, m, bi⟩ := T.f__law_frozen
    refine ⟨a, fd, _, fnS F sc__law_frozen rfl (fun cdv A' outer sh H E hr => ⟨_, (pss_cons (ps_if (pt_val (pe_callB (DK.isi (K := K)) (by rfl) T.z_isinstance (by decide +kernel) (pa_cons (pv 0) (pa_cons (pe_tyn (n := "dict") (by rfl) T.z_dict (by decide +kernel)) pa_nil))))
  (pss_one (ps_ret (pe_callTy (call_dctP (K := K)) (by rfl) T.z_dict (by decide +kernel) (pa_cons (pe_lock (pe_lc (own := [("_law_key", 1)]) (g := (gName 1)) (tt := tYes) rfl sc__law_frozen.nd (pi_keys (pv 0)) (blkOk_by (own := [("_law_key", 1)]) (N := n__law_frozen) (sc := (defScope s__law_frozen)) (by first | decide +kernel | kernel_rfl)) (fun _ _ _ _ _ => (pg_name (i := 1) sc__law_frozen.nd rfl (by first | exact .inl rfl | exact .inr rfl))) (fun _ _ _ _ _ => pts_nil) (fun _ _ _ _ _ => (pe_tup (pa_cons (pv 1) (pa_cons (pe_cx c__law_frozen hr (by omega) (by rfl) passL (pa_cons (pe_ix (DK.ix (K := K)) (pv 0) (pv 1) (fun _ _ => rfl)) pa_nil)) pa_nil)))))) pa_nil))))
  pss_nil)
  (pss_one (ps_ret (pe_ifExp (pt_val (pe_callB (DK.isiT (K := K)) (by rfl) T.z_isinstance (by decide +kernel) (pa_cons (pv 0) (pa_cons (pe_tup (pa_cons (pe_tyn (n := "list") (by rfl) T.z_list (by decide +kernel)) (pa_cons (pe_tyn (n := "tuple") (by rfl) T.z_tuple (by decide +kernel)) pa_nil))) pa_nil)))) (pe_callTy (DK.tup (K := K)) (by rfl) T.z_tuple (by decide +kernel) (pa_cons (pe_lc (own := [("_law_part", 2)]) (g := (gName 2)) (tt := tYes) rfl sc__law_frozen.nd (DK.pi_seq (K := K) (pv 0)) (blkOk_by (own := [("_law_part", 2)]) (N := n__law_frozen) (sc := (defScope s__law_frozen)) (by first | decide +kernel | kernel_rfl)) (fun _ _ _ _ _ => (pg_name (i := 2) sc__law_frozen.nd rfl (by first | exact .inl rfl | exact .inr rfl))) (fun _ _ _ _ _ => pts_nil) (fun _ _ _ _ _ => (pe_cx c__law_frozen hr (by omega) (by rfl) passL (pa_cons (pv 2) pa_nil)))) pa_nil)) (pv 0))))), fun R k0 ds b hp hl hE => ?_⟩), m, F.kp, bi⟩
    obtain ⟨o, ho⟩ := hp
    obtain ⟨d, rfl⟩ : ∃ d, ds = [d] := by
      match ds, hl with
      | [d], _ => exact ⟨d, rfl⟩
    have hx : XOk ⟨K, R, k0, H, true, fun _ => none⟩ E (fun _ _ _ _ => False) := xok0
    have go : ∀ (l : List D), l.length ≤ 1000 → l.all (fun x => (frozD n x).isSome) = true → ∀ x ∈ l, gFroz n [x] = some (.ret ((frozD n x).getD .non)) := fun l _ h x hx => by
      have := List.all_eq_true.mp h x hx
      obtain ⟨y, hy⟩ := Option.isSome_iff_exists.mp this
      show (frozD n x).map Out.ret = _
      rw [hy]
      rfl
    cases d
    case dct ks l =>
      have e : ks = [] ∧ l = [] := by
        cases ks <;> cases l <;> first | exact ⟨rfl, rfl⟩ | cases ho
      obtain ⟨rfl, rfl⟩ := e
      repeat (walk_at "s1")
      refine we_lcD0 (by rfl) ?_
      repeat (walk_at "s1")
      refine rc_dct0 ?_
      exact ⟨rfl, rfl⟩
    case lst l =>
      obtain ⟨⟨h1, h2⟩, ho⟩ : (l.length ≤ 1000 ∧ l.all (fun x => (frozD n x).isSome) = true) ∧ gFroz (n + 1) [.lst l] = some (.ret (.tup (l.map fun x => (frozD n x).getD .non))) := by
        by_cases hc : l.length ≤ 1000 ∧ l.all (fun x => (frozD n x).isSome) = true
        · refine ⟨hc, ?_⟩
          show (if l.length ≤ 1000 ∧ l.all (fun x => (frozD n x).isSome) = true then some (D.tup (l.map fun x => (frozD n x).getD .non)) else none).map Out.ret = _
          rw [if_pos hc]
          rfl
        · have e : gFroz (n + 1) [.lst l] = (if l.length ≤ 1000 ∧ l.all (fun x => (frozD n x).isSome) = true then some (D.tup (l.map fun x => (frozD n x).getD .non)) else none).map Out.ret := rfl
          rw [e, if_neg hc] at ho
          cases ho
      have gl := go l h1 h2
      repeat (walk_at "s1")
      refine we_lcM (kg_name (by decide)) ?_
      repeat (walk_at "s1")
      refine ⟨fun x => (frozD n x).getD .non, lt_size (by omega), fun x hxl oo acc => ?_, ?_⟩
      · repeat (walk_at "s1")
        refine co_ret rfl (gl x hxl) ?_
        exact ⟨rfl, rfl, rfl⟩
      · repeat (walk_at "s1")
        refine rc_tup (l := l.map fun x => (frozD n x).getD .non) rfl ?_
        exact ⟨ho, rfl⟩
    case tup l =>
      obtain ⟨⟨h1, h2⟩, ho⟩ : (l.length ≤ 1000 ∧ l.all (fun x => (frozD n x).isSome) = true) ∧ gFroz (n + 1) [.tup l] = some (.ret (.tup (l.map fun x => (frozD n x).getD .non))) := by
        by_cases hc : l.length ≤ 1000 ∧ l.all (fun x => (frozD n x).isSome) = true
        · refine ⟨hc, ?_⟩
          show (if l.length ≤ 1000 ∧ l.all (fun x => (frozD n x).isSome) = true then some (D.tup (l.map fun x => (frozD n x).getD .non)) else none).map Out.ret = _
          rw [if_pos hc]
          rfl
        · have e : gFroz (n + 1) [.tup l] = (if l.length ≤ 1000 ∧ l.all (fun x => (frozD n x).isSome) = true then some (D.tup (l.map fun x => (frozD n x).getD .non)) else none).map Out.ret := rfl
          rw [e, if_neg hc] at ho
          cases ho
      have gl := go l h1 h2
      repeat (walk_at "s1")
      refine we_lcM (kg_name (by decide)) ?_
      repeat (walk_at "s1")
      refine ⟨fun x => (frozD n x).getD .non, lt_size (by omega), fun x hxl oo acc => ?_, ?_⟩
      · repeat (walk_at "s1")
        refine co_ret rfl (gl x hxl) ?_
        exact ⟨rfl, rfl, rfl⟩
      · repeat (walk_at "s1")
        refine rc_tup (l := l.map fun x => (frozD n x).getD .non) rfl ?_
        exact ⟨ho, rfl⟩
    all_goals first
      | (cases ho; done)
      | (repeat (walk_at "s1")
         exact ⟨rfl, rfl⟩)
theorem zip_mem {l : List D} {d : D} (h : d ∈ zipD l l) : ∃ x, x ∈ l ∧ d = .tup [x, x] := by
  obtain ⟨i, hi, e⟩ := List.mem_iff_getElem.mp h
  obtain ⟨x, y, h1, h2, h3⟩ := zipD_get (l := l) (m := l) (i := i) (d := d) (by rw [List.getElem?_eq_getElem hi, e])
  rw [h1] at h2
  cases h2
  exact ⟨x, List.mem_of_getElem? h1, h3⟩
/-- what _law_same tells alike -/
def okS : Nat → D → Bool
  | 0, _ => false
  | n + 1, d => match d with
    | .lst l => decide (l.length ≤ 1000) && l.all (okS n)
    | .tup l => decide (l.length ≤ 1000) && l.all (okS n)
    | .non => true
    | .bl _ => true
    | .int _ => true
    | .str _ => true
    | .dct [] [] => true
    | _ => false
def sSame (n : Nat) : Spc where
  pre := fun R ds b => ∃ d, ds = [d, d] ∧ okS n d = true
  post := fun R ds b d b' => d = .bl true ∧ b' = b
theorem ok_same (T : Tx P K mg A) : ∀ n, CalX P w K mg base (n + 1) "_law_same" (SpS K 2 (sSame n))
  | 0 => cal_none T.f__law_same sc__law_same fun R ds b ⟨d, h1, h2⟩ => by cases h2
  | n + 1 => by
    have c__law_same := ok_same T n
    obtain ⟨a, fd, F, m, bi⟩ := T.f__law_same
    refine ⟨a, fd, _, fnS F sc__law_same rfl (fun cdv A' outer sh H E hr => ⟨_, (pss_cons (ps_if (pt_val (pe_callB (DK.isiT (K := K)) (by rfl) T.z_isinstance (by decide +kernel) (pa_cons (pv 1) (pa_cons (pe_tup (pa_cons (pe_tyn (n := "list") (by rfl) T.z_list (by decide +kernel)) (pa_cons (pe_tyn (n := "tuple") (by rfl) T.z_tuple (by decide +kernel)) pa_nil))) pa_nil))))
  (pss_cons (ps_if (PW.pt (pw_or (pt_cmpR (DK.op_ne (K := K) (hr.units)) (pe_callB (DK.isi (K := K)) (by rfl) T.z_isinstance (by decide +kernel) (pa_cons (pv 0) (pa_cons (pe_tyn (n := "list") (by rfl) T.z_list (by decide +kernel)) pa_nil))) (pe_callB (DK.isi (K := K)) (by rfl) T.z_isinstance (by decide +kernel) (pa_cons (pv 1) (pa_cons (pe_tyn (n := "list") (by rfl) T.z_list (by decide +kernel)) pa_nil))) (nomark _)) (pw_or1 (pt_cmpR (DK.op_ne (K := K) (hr.units)) (pe_callB (DK.isi (K := K)) (by rfl) T.z_isinstance (by decide +kernel) (pa_cons (pv 0) (pa_cons (pe_tyn (n := "tuple") (by rfl) T.z_tuple (by decide +kernel)) pa_nil))) (pe_callB (DK.isi (K := K)) (by rfl) T.z_isinstance (by decide +kernel) (pa_cons (pv 1) (pa_cons (pe_tyn (n := "tuple") (by rfl) T.z_tuple (by decide +kernel)) pa_nil))) (nomark _)))))
  (pss_one (ps_ret pe_bl))
  pss_nil)
  (pss_one (ps_ret (pe_and (pe_cmpR (DK.op_eq (K := K) (hr.units)) (pe_callB (DK.len (K := K)) (by rfl) T.z_len (by decide +kernel) (pa_cons (pv 0) pa_nil)) (pe_callB (DK.len (K := K)) (by rfl) T.z_len (by decide +kernel) (pa_cons (pv 1) pa_nil)) (nomark _)) (pe_one (pe_callB (DK.all (K := K)) (by rfl) T.z_all (by decide +kernel) (pa_cons (pe_lc (own := [("_law_x", 2), ("_law_y", 3)]) (g := (gTup K 2 (gCons (gName 2) (gCons (gName 3) gNil)))) (tt := tYes) rfl sc__law_same.nd (DK.pi_zip (K := K) (by rfl) T.z_zip (pa_cons (pv 0) (pa_cons (pv 1) pa_nil))) (blkOk_by (own := [("_law_x", 2), ("_law_y", 3)]) (N := n__law_same) (sc := (defScope s__law_same)) (by first | decide +kernel | kernel_rfl)) (fun _ _ _ _ _ => (DK.pg_tup (K := K) rfl (pgs_cons (pg_name (i := 2) sc__law_same.nd rfl (by first | exact .inl rfl | exact .inr rfl)) (pgs_cons (pg_name (i := 3) sc__law_same.nd rfl (by first | exact .inl rfl | exact .inr rfl)) pgs_nil)))) (fun _ _ _ _ _ => pts_nil) (fun _ _ _ _ _ => (pe_cx c__law_same hr (by omega) (by rfl) passL (pa_cons (pv 2) (pa_cons (pv 3) pa_nil))))) pa_nil)))))))
  pss_nil)
  (pss_cons (ps_if (pt_val (pe_callB (DK.isi (K := K)) (by rfl) T.z_isinstance (by decide +kernel) (pa_cons (pv 1) (pa_cons (pe_tyn (n := "int") (by rfl) T.z_int (by decide +kernel)) pa_nil))))
  (pss_one (ps_ret (pe_and (pe_callB (DK.isi (K := K)) (by rfl) T.z_isinstance (by decide +kernel) (pa_cons (pv 0) (pa_cons (pe_tyn (n := "int") (by rfl) T.z_int (by decide +kernel)) pa_nil))) (pe_and (pe_cmpR (DK.op_eq (K := K) (hr.units)) (pe_callB (DK.isi (K := K)) (by rfl) T.z_isinstance (by decide +kernel) (pa_cons (pv 0) (pa_cons (pe_tyn (n := "bool") (by rfl) T.z_bool (by decide +kernel)) pa_nil))) (pe_callB (DK.isi (K := K)) (by rfl) T.z_isinstance (by decide +kernel) (pa_cons (pv 1) (pa_cons (pe_tyn (n := "bool") (by rfl) T.z_bool (by decide +kernel)) pa_nil))) (nomark _)) (pe_one (pe_cmpR (DK.op_eq (K := K) (hr.units)) (pv 0) (pv 1) (nomark _)))))))
  pss_nil)
  (pss_one (ps_ret (pe_and (pe_cmpR op_isK (pe_callB (DK.isiT (K := K)) (by rfl) T.z_isinstance (by decide +kernel) (pa_cons (pv 0) (pa_cons (pe_tup (pa_cons (pe_tyn (n := "int") (by rfl) T.z_int (by decide +kernel)) (pa_cons (pe_tyn (n := "list") (by rfl) T.z_list (by decide +kernel)) (pa_cons (pe_tyn (n := "tuple") (by rfl) T.z_tuple (by decide +kernel)) pa_nil)))) pa_nil))) pe_bl (nomark _)) (pe_one (pe_cmpR (DK.op_eq (K := K) (hr.units)) (pv 0) (pv 1) (nomark _)))))))), fun R k0 ds b hp hl hE => ?_⟩), m, F.kp, bi⟩
    obtain ⟨d, rfl, hd⟩ := hp
    cases d
    case lst l =>
      obtain ⟨l1, l2⟩ := Bool.and_eq_true_iff.mp hd
      have l1 := of_decide_eq_true l1
      have l2 := List.all_eq_true.mp l2
      repeat (walk_at "s1")
      refine rc_len (l := l) rfl ?_
      repeat (walk_at "s1")
      refine rc_len (l := l) rfl ?_
      repeat (walk_at "s1")
      refine brD (fun _ => ?_) (fun h => absurd rfl h)
      repeat (walk_at "s1")
      refine we_lcM (kg_tup (kgs_cons (by decide) (kgs_cons (by decide) kgs_nil))) ?_
      refine wi_zip ?_
      repeat (walk_at "s1")
      refine ⟨l, l, rfl, fun _ => .bl true, lt_size (by unfold zipD; rw [List.length_map, List.length_zip]; omega), fun x hxl oo acc => ?_, ?_⟩
      · obtain ⟨y, hy, rfl⟩ := zip_mem hxl
        refine wg_tup rfl ?_
        repeat (walk_at "s1")
        refine we_call (X := fun _ _ _ _ => False) xok0 ?_
        repeat (walk_at "s1")
        refine ⟨rfl, ⟨y, rfl, l2 y hy⟩, ?_, fun _ _ _ _ z => z⟩
        rintro d b' ⟨rfl, _⟩
        exact ⟨rfl, rfl, rfl⟩
      · repeat (walk_at "s1")
        have e : (zipD l l).all (fun _ => true) = true := by simp
        exact ⟨congrArg D.bl e, rfl⟩
    case tup l =>
      obtain ⟨l1, l2⟩ := Bool.and_eq_true_iff.mp hd
      have l1 := of_decide_eq_true l1
      have l2 := List.all_eq_true.mp l2
      repeat (walk_at "s1")
      refine rc_len (l := l) rfl ?_
      repeat (walk_at "s1")
      refine rc_len (l := l) rfl ?_
      repeat (walk_at "s1")
      refine brD (fun _ => ?_) (fun h => absurd rfl h)
      repeat (walk_at "s1")
      refine we_lcM (kg_tup (kgs_cons (by decide) (kgs_cons (by decide) kgs_nil))) ?_
      refine wi_zipT ?_
      repeat (walk_at "s1")
      refine ⟨l, l, rfl, fun _ => .bl true, lt_size (by unfold zipD; rw [List.length_map, List.length_zip]; omega), fun x hxl oo acc => ?_, ?_⟩
      · obtain ⟨y, hy, rfl⟩ := zip_mem hxl
        refine wg_tup rfl ?_
        repeat (walk_at "s1")
        refine we_call (X := fun _ _ _ _ => False) xok0 ?_
        repeat (walk_at "s1")
        refine ⟨rfl, ⟨y, rfl, l2 y hy⟩, ?_, fun _ _ _ _ z => z⟩
        rintro d b' ⟨rfl, _⟩
        exact ⟨rfl, rfl, rfl⟩
      · repeat (walk_at "s1")
        have e : (zipD l l).all (fun _ => true) = true := by simp
        exact ⟨congrArg D.bl e, rfl⟩
    case dct ks l =>
      have e : ks = [] ∧ l = [] := by
        cases ks <;> cases l <;> first | exact ⟨rfl, rfl⟩ | cases hd
      obtain ⟨rfl, rfl⟩ := e
      repeat (walk_at "s1")
      refine rd_eq_dct0 ?_
      exact ⟨rfl, rfl⟩
    case non =>
      repeat (walk_at "s1")
      refine rd_eq_py (by rfl) (by rfl) ?_
      exact ⟨rfl, rfl⟩
    all_goals first
      | (cases hd; done)
      | (repeat (walk_at "s1")
         exact ⟨congrArg D.bl (decide_eq_true rfl), rfl⟩)
end
end K10

set_option Elab.async false
set_option linter.all false
set_option maxRecDepth 100000
set_option maxHeartbeats 4000000
namespace K10
open PySem PySem.Spec PyProof.Rows L2 DL
section
variable {P : Program} {w : World} {K : PySem.W.Frag} {mg : Str → Option Value} {base : Heap} {A : Ad}
local macro_rules | `(tactic| walk_at "s0") => `(tactic| with_reducible first
  | refine ws_seq ?_ | refine ws_next ?_ | refine ws_ret ?_ | refine ws_retN ?_ | refine ws_if ?_ | refine ws_asg ?_ | refine ws_drop ?_ | refine ws_par ?_ | refine ws_break ?_ | refine ws_cont ?_
  | refine we_var rfl ?_ | refine we_int ?_ | refine we_non ?_ | refine we_bl ?_ | refine we_str ?_ | refine we_ty ?_ | refine we_dnew ?_ | refine we_op ?_ | refine we_un ?_
  | refine we_and ?_ | refine we_or ?_ | refine we_not ?_ | refine we_if ?_ | refine we_chain ?_ | refine we_cb ?_ | refine we_tup ?_ | refine we_lst ?_
  | refine wl_cons ?_ | refine wl_nil ?_ | refine wt_B ?_ | refine wt_test ?_ | refine wt_and ?_ | refine wt_or ?_ | refine wt_not ?_ | refine wt_yes ?_
  | refine wi_tup ?_ | refine wi_list ?_ | refine wg_tup rfl ?_ | refine wgs_cons ?_ | refine wgs_nil ?_
  | refine rd_add_int ?_ | refine rd_sub ?_ | refine rd_lt ?_ | refine rd_le ?_ | refine rd_gt ?_ | refine rd_ge ?_ | refine rd_eq_int ?_ | refine rd_ne_int ?_ | refine rd_eq_str ?_ | refine rd_ne_str ?_ | refine rd_eq_bl ?_ | refine rd_ne_bl ?_ | refine rd_is ?_ | refine rd_is_bl ?_ | refine rd_isnot ?_ | refine ru_neg ?_
  | refine rc_int ?_ | refine rc_abs ?_ | refine rc_anyF ?_ | refine rc_allF ?_
  | refine brT ?_ | refine brF ?_ | refine brT' ?_ | refine brF' ?_
  | refine ⟨_, rfl, ?_⟩)
set_option hygiene false in
local macro_rules | `(tactic| walk_at "s1") => `(tactic| first
  | refine we_isiLT ?_ | refine we_isiILT ?_ | refine wi_seqV (by rfl) (by rfl) ?_ | walk_at "s0" | refine ⟨true, by rfl, ?_⟩ | refine ⟨false, by rfl, ?_⟩ | refine we_ref ?_ | refine we_fld1 ?_ | refine ⟨_, _, _, _, rfl, T.n_Poly_prime, by rfl, ?_⟩ | refine ⟨_, _, _, _, rfl, T.n_Poly_row, by rfl, ?_⟩ | refine rc_isiB (r := true) (by rfl) ?_ | refine rc_isiO T.k_Poly ?_ | refine rc_isiN T.k_Poly (by rfl) ?_ | refine we_callF (by assumption) ?_ | refine we_callF (X := fun _ _ _ _ => False) xok0 ?_ | refine we_callFl (by assumption) ?_ | refine we_callFl (X := fun _ _ _ _ => False) xok0 ?_ | refine we_makeFl (by assumption) ?_ | refine we_makeFl (X := fun _ _ _ _ => False) xok0 ?_ | refine we_makeF (by assumption) ?_ | refine we_makeF (X := fun _ _ _ _ => False) xok0 ?_ | refine DX.ws_rs (by assumption) ?_ | refine wt_test ?_ | refine co_ret rfl (by rfl) ?_ | refine wg_nm (by rfl) ?_ | refine parB (by rfl) (by rfl) ?_ | refine szB (by rfl) ?_ | refine szL (by rfl) ?_ | refine brT2 (by rfl) ?_ | refine brF2 (by rfl) ?_ | refine brT3 (by rfl) ?_ | refine brF3 (by rfl) ?_ | refine rc_isiB (r := false) (by rfl) ?_)
/-- _law_tried's reading -/
def t_tried (K : PySem.W.Frag) (A : Ad) (q : Str) (f c' : Addr) (tl : XK → Hp → VK → Prop) : TS :=
  tSeq (DX.tTryL K 2 [(.ref A.NoPoly, none, fun a cls d => tAsg (tTup (tCons (tC (.str "none")) (tCons (tC .non) tNil))) (gName 1))]
    fun E => tAsg (tTup (tCons (tC (.str "told")) (tCons (DX.tAct f c' q tl E) tNil))) (gName 1)) (tRet (tVar 1))
theorem d__law_tried {X : Cx} {K : PySem.W.Frag} (T : Tx X.prog X.K X.mg A) (hK : X.K = K) {g : Addr} {cdg : Value} {f c' : Addr} {s : Shared} {H : Hp} {q : Str} {tl : XK → Hp → VK → Prop} (act : DX.Acts (DX.Zx X n__law_tried "_law_tried" (defScope s__law_tried) g cdg s H) "_law_ask" f c' q tl) :
    PSs (DX.Zx X n__law_tried "_law_tried" (defScope s__law_tried) g cdg s H).nox (defBody s__law_tried) (t_tried K A q f c' tl) := by
  subst hK
  exact (pss_cons (DX.ps_tryL rfl rfl (fun W pn xe tk po E hW => (pss_one (ps_asg (pe_tup (pa_cons pe_str (pa_cons (act W pn xe E _ _ tk hW) pa_nil))) (pg_name (i := 1) sc__law_tried.nd rfl (by first | exact .inl rfl | exact .inr rfl)))))
  (.plain (DX.nm_ex T.x_NoPoly) (fun a oe cls d pn hz hf => (pss_one (ps_asg (pe_tup (pa_cons pe_str (pa_cons pe_non pa_nil))) (pg_name (i := 1) sc__law_tried.nd rfl (by first | exact .inl rfl | exact .inr rfl)))))
  .nil))
  (pss_one (ps_ret (pv 1))))
/-- what an outcome is told as -/
inductive Tried (A : Ad) : Out → D → Prop
  | told (v : D) : Tried A (.ret v) (.tup [.str "told", v])
  | NoPoly : Tried A (.exc A.NoPoly [] []) (.tup [(.str "none"), .non])
theorem Tried.len {o : Out} {d : D} (h : Tried A o d) : ∀ C ns fs, o = .exc C ns fs → fs.length = ns.length := by
  intro C ns fs e
  cases h <;> cases e <;> rfl
theorem w_tried {c : Cn} {q : Str} {β : Nat} {o : Out} {d : D} (T : Tx P c.K mg A) (ht : Tried A o d) {f c' : Addr} {tl : XK → Hp → VK → Prop} (hc : ∀ b h, c.R.I b h → h c' = some (LamX.CodeO c' q)) (htl : TlOk c β tl (fun v => o = .ret v) (fun C ns fs => o = .exc C ns fs)) :
    WS c (t_tried c.K A q f c' tl) { δ := startD n__law_tried [.ref f], b := β } { nx := fun _ => False, rt := fun d' ς => d' = d ∧ ς.b = β } := by
  refine ws_seq ?_
  refine ws_tryL rfl ht.len fun kb e0 => ⟨fun C ns fs eo => ?_, fun Ech hE => ?_⟩
  · cases ht with
    | told v => cases eo
    | NoPoly  =>
      cases eo
      refine (hnd_take0 T.e_NoPoly_NoPoly fun a => ?_)
      repeat (walk_at "s1")
      exact ⟨rfl, rfl⟩
  · dsimp only [startD, List.map, List.append, List.replicate, List.set] at hE
    refine ws_asg (we_tup (wl_cons (we_str ?_)))
    refine wl_cons (we_act (htl.at e0) hc hE rfl rfl rfl (fun C ns fs e => ⟨e, rfl⟩) fun v ev => ?_)
    have ed : d = (fun v => (.tup [.str "told", v])) v := by cases ht <;> cases ev; rfl
    repeat (walk_at "s1")
    exact ⟨ed.symm, rfl⟩
theorem we_tried {c : Cn} {ς : Sta} {Φ : D → Sta → Prop} {Tb : List (Addr × Str)} {t : XK → TE} {q : Str} {o : Out} {d : D} (T : Tx P c.K mg A) (V : TabR c Tb) (ht : Tried A o d)
    (hb : ∀ c3 : Cn, c3.K = c.K → c3.fr = true → ∀ E, XOk c3 E (fun C ns fs ς1 => o = .exc C ns fs ∧ ς1 = { δ := ς.δ, b := ς.b }) → WE c3 (t E) { δ := ς.δ, b := ς.b } fun v ς1 => o = .ret v ∧ ς1 = { δ := ς.δ, b := ς.b })
    (hq : Φ d ς) : WE c (LamX.tLam Tb (DX.TTof q n__law_tried (t_tried c.K A q)) t) ς Φ := by
  refine we_lam (Φb := fun v => o = .ret v) (Xb := fun C ns fs => o = .exc C ns fs) V hb fun c3 h1 h2 f c' tl hc htl => ?_
  rw [← h1]
  refine ws_mono (w_tried (T := by rw [h1]; exact T) ht hc htl) (fun _ z => z.elim) (fun d' ς1 z => ?_) (fun _ z => z.elim) fun _ z => z.elim
  obtain ⟨rfl, eb⟩ := z
  show Φ d' { ς with b := ς1.b }
  rw [eb]
  exact hq

end
end K10

set_option Elab.async false
set_option linter.all false
set_option maxRecDepth 100000
set_option maxHeartbeats 4000000
namespace K10
open PySem PySem.Spec PyProof.Rows L2 DL
section
variable {P : Program} {w : World} {K : PySem.W.Frag} {mg : Str → Option Value} {base : Heap} {A : Ad}
local macro_rules | `(tactic| walk_at "s0") => `(tactic| with_reducible first
  | refine ws_seq ?_ | refine ws_next ?_ | refine ws_ret ?_ | refine ws_retN ?_ | refine ws_if ?_ | refine ws_asg ?_ | refine ws_drop ?_ | refine ws_par ?_ | refine ws_break ?_ | refine ws_cont ?_
  | refine we_var rfl ?_ | refine we_int ?_ | refine we_non ?_ | refine we_bl ?_ | refine we_str ?_ | refine we_ty ?_ | refine we_dnew ?_ | refine we_op ?_ | refine we_un ?_
  | refine we_and ?_ | refine we_or ?_ | refine we_not ?_ | refine we_if ?_ | refine we_chain ?_ | refine we_cb ?_ | refine we_tup ?_ | refine we_lst ?_
  | refine wl_cons ?_ | refine wl_nil ?_ | refine wt_B ?_ | refine wt_test ?_ | refine wt_and ?_ | refine wt_or ?_ | refine wt_not ?_ | refine wt_yes ?_
  | refine wi_tup ?_ | refine wi_list ?_ | refine wg_tup rfl ?_ | refine wgs_cons ?_ | refine wgs_nil ?_
  | refine rd_add_int ?_ | refine rd_sub ?_ | refine rd_lt ?_ | refine rd_le ?_ | refine rd_gt ?_ | refine rd_ge ?_ | refine rd_eq_int ?_ | refine rd_ne_int ?_ | refine rd_eq_str ?_ | refine rd_ne_str ?_ | refine rd_eq_bl ?_ | refine rd_ne_bl ?_ | refine rd_is ?_ | refine rd_is_bl ?_ | refine rd_isnot ?_ | refine ru_neg ?_
  | refine rc_int ?_ | refine rc_abs ?_ | refine rc_anyF ?_ | refine rc_allF ?_
  | refine brT ?_ | refine brF ?_ | refine brT' ?_ | refine brF' ?_
  | refine ⟨_, rfl, ?_⟩)
set_option hygiene false in
local macro_rules | `(tactic| walk_at "s1") => `(tactic| first
  | refine we_isiLT ?_ | refine we_isiILT ?_ | refine wi_seqV (by rfl) (by rfl) ?_ | walk_at "s0" | refine ⟨true, by rfl, ?_⟩ | refine ⟨false, by rfl, ?_⟩ | refine we_ref ?_ | refine we_fld1 ?_ | refine ⟨_, _, _, _, rfl, T.n_Poly_prime, by rfl, ?_⟩ | refine ⟨_, _, _, _, rfl, T.n_Poly_row, by rfl, ?_⟩ | refine rc_isiB (r := true) (by rfl) ?_ | refine rc_isiO T.k_Poly ?_ | refine rc_isiN T.k_Poly (by rfl) ?_ | refine we_callF (by assumption) ?_ | refine we_callF (X := fun _ _ _ _ => False) xok0 ?_ | refine we_callFl (by assumption) ?_ | refine we_callFl (X := fun _ _ _ _ => False) xok0 ?_ | refine we_makeFl (by assumption) ?_ | refine we_makeFl (X := fun _ _ _ _ => False) xok0 ?_ | refine we_makeF (by assumption) ?_ | refine we_makeF (X := fun _ _ _ _ => False) xok0 ?_ | refine DX.ws_rs (by assumption) ?_ | refine wt_test ?_ | refine co_ret rfl (by rfl) ?_ | refine wg_nm (by rfl) ?_ | refine parB (by rfl) (by rfl) ?_ | refine szB (by rfl) ?_ | refine szL (by rfl) ?_ | refine brT2 (by rfl) ?_ | refine brF2 (by rfl) ?_ | refine brT3 (by rfl) ?_ | refine brF3 (by rfl) ?_ | refine rc_isiB (r := false) (by rfl) ?_)
/-! the law's own worths, rows -/
def wwS (p n : Int) (r : List Int) : Int × Int := r.foldl (fun s x => (s.1 + x * s.2, s.2 * n % p)) (0, 1)
def ww (p n : Int) (r : List Int) : Int := (wwS p n r).1 % p
noncomputable def gWW : List D → Option Out := gOf (fun x : Int × Int × List Int => [iL x.2.2, .int x.2.1, .int x.1]) (fun x => 0 < x.1 ∧ x.1 ≤ 101 ∧ x.2.2.length ≤ 2000 ∧ ∀ y ∈ x.2.2, 0 ≤ y ∧ y < x.1) fun x => .ret (.int (ww x.1 x.2.1 x.2.2))
theorem ww_inj (x y : Int × Int × List Int) (e : [iL x.2.2, .int x.2.1, .int x.1] = [iL y.2.2, .int y.2.1, .int y.1]) : x = y := by
  injection e with e1 e
  injection e with e2 e
  injection e with e3 _
  injection e1 with e1
  injection e2 with e2
  injection e3 with e3
  exact Prod.ext e3 (Prod.ext e2 (iL_inj e1))
theorem gWW_eq {p n : Int} {r : List Int} (h1 : 0 < p) (h2 : p ≤ 101) (h3 : r.length ≤ 2000) (h4 : ∀ y ∈ r, 0 ≤ y ∧ y < p) : gWW [iL r, .int n, .int p] = some (.ret (.int (ww p n r))) := gOf_eq (x := (p, n, r)) ww_inj ⟨h1, h2, h3, h4⟩
theorem ok_w_worth (T : Tx P K mg A) : CalX P w K mg base 1 "_law_w_worth" (SpS K 3 (spcF gWW)) := by
  obtain ⟨a, fd, F, m, bi⟩ := T.f__law_w_worth
  refine ⟨a, fd, _, fnS F sc__law_w_worth rfl (fun cdv A' outer sh H E hr => ⟨_, (pss_cons (ps_asg (pe_tup (pa_cons pe_int (pa_cons pe_int pa_nil))) (DK.pg_tup (K := K) rfl (pgs_cons (pg_name (i := 4) sc__law_w_worth.nd rfl (by first | exact .inl rfl | exact .inr rfl)) (pgs_cons (pg_name (i := 5) sc__law_w_worth.nd rfl (by first | exact .inl rfl | exact .inr rfl)) pgs_nil))))
  (pss_cons (ps_for (passes_of rfl) rfl (DK.pi_seq (K := K) (pv 0)) (pg_name (i := 3) sc__law_w_worth.nd rfl (by first | exact .inl rfl | exact .inr rfl))
  (pss_one (ps_par (by rfl) sc__law_w_worth.nd (i := 4) (j := 5) rfl rfl (by decide) rfl rfl (pa_cons (pe_op (DK.op_add (K := K)) (pv 4) (pe_op op_mulK (pv 3) (pv 5))) (pa_cons (pe_op op_modK (pe_callTy call_intK (by rfl) T.z_int (by decide +kernel) (pa_cons (pe_op op_mulK (pv 5) (pv 1)) pa_nil)) (pv 2)) pa_nil)) (by rfl))))
  (pss_one (ps_ret (pe_op op_modK (pe_callTy call_intK (by rfl) T.z_int (by decide +kernel) (pa_cons (pv 4) pa_nil)) (pv 2)))))), fun R k0 ds b hp hl hE => ?_⟩), m, F.kp, bi⟩
  obtain ⟨o, ho⟩ := hp
  obtain ⟨⟨p, n, r⟩, rfl, ⟨h1, h2, h3, h4⟩, rfl⟩ := gOf_inv ho
  dsimp only at h1 h2 h3 h4 ho hl ⊢
  repeat (walk_at "s1")
  refine ws_for ?_
  repeat (walk_at "s1")
  dsimp only [List.set]
  refine ⟨fun i ς => ∃ x5, ς = { δ := [some (iL r), some (.int n), some (.int p), x5, some (.int (wwS p n (r.take i)).1), some (.int (wwS p n (r.take i)).2)], b := b } ∧ 0 ≤ (wwS p n (r.take i)).2 ∧ (wwS p n (r.take i)).2 < 1000, ⟨none, rfl, (by decide : (0 : Int) ≤ 1), (by decide : (1 : Int) < 1000)⟩, ?_, ?_⟩
  · rintro i d ς hi ⟨x5, rfl, f1, f2⟩
    obtain ⟨x, rfl, hx⟩ := get_ints hi
    have hx : r[i]? = some x := by
      rw [List.getElem?_map] at hx
      cases e : r[i]? with
      | none => rw [e] at hx; cases hx
      | some y => rw [e] at hx; cases hx; rfl
    have hy := h4 x (List.mem_of_getElem? hx)
    have st : wwS p n (r.take (i + 1)) = ((wwS p n (r.take i)).1 + x * (wwS p n (r.take i)).2, (wwS p n (r.take i)).2 * n % p) := by
      unfold wwS
      rw [List.take_add_one, hx]
      simp
    have g1 : 0 ≤ (wwS p n (r.take i)).2 * n % p := Int.emod_nonneg _ (by omega)
    have g2 : (wwS p n (r.take i)).2 * n % p < p := Int.emod_lt_of_pos _ h1
    repeat (walk_at "s1")
    refine rd_mul (mul_small (by omega) (by omega)) ?_
    repeat (walk_at "s1")
    refine rd_mul (mul_small (by omega) (by omega)) ?_
    repeat (walk_at "s1")
    refine rd_mod h1 ?_
    repeat (walk_at "s1")
    dsimp only [List.set]
    refine ⟨some (.int x), ?_, ?_, ?_⟩
    · rw [st]
    · rw [st]; exact g1
    · rw [st]; show _ < (1000 : Int); omega
  · rintro ς ⟨x5, rfl, f1, f2⟩
    repeat (walk_at "s1")
    refine rd_mod h1 ?_
    rw [List.length_map, List.take_length]
    exact ⟨ho, rfl⟩
end
/-! ### plain laws -/
def Cong (p a b : Int) : Prop := ∃ k, a = b + p * k
theorem Cong.refl (p a : Int) : Cong p a a := ⟨0, by grind⟩
theorem Cong.mod (p a : Int) : Cong p (a % p) a := ⟨-(a / p), by have := Int.emod_add_mul_ediv a p; grind⟩
theorem Cong.symm {p a b : Int} (h : Cong p a b) : Cong p b a := by
  obtain ⟨k, e⟩ := h
  exact ⟨-k, by grind⟩
theorem Cong.trans {p a b c : Int} (h : Cong p a b) (h' : Cong p b c) : Cong p a c := by
  obtain ⟨k, e⟩ := h
  obtain ⟨l, e'⟩ := h'
  exact ⟨k + l, by grind⟩
theorem Cong.add {p a b c d : Int} (h : Cong p a b) (h' : Cong p c d) : Cong p (a + c) (b + d) := by
  obtain ⟨k, e⟩ := h
  obtain ⟨l, e'⟩ := h'
  exact ⟨k + l, by grind⟩
theorem Cong.mul {p a b c d : Int} (h : Cong p a b) (h' : Cong p c d) : Cong p (a * c) (b * d) := by
  obtain ⟨k, e⟩ := h
  obtain ⟨l, e'⟩ := h'
  exact ⟨k * d + b * l + p * k * l, by grind⟩
theorem Cong.eq {p a b : Int} (h : Cong p a b) : a % p = b % p := by
  obtain ⟨k, e⟩ := h
  rw [e, Int.add_mul_emod_self_left]
/-- by Horner's way -/
def ev (n : Int) : List Int → Int
  | [] => 0
  | x :: r => x + n * ev n r
theorem ev_cong {p n n' : Int} (h : Cong p n n') : ∀ r, Cong p (ev n r) (ev n' r)
  | [] => .refl _ _
  | x :: r => (Cong.refl p x).add (h.mul (ev_cong h r))
theorem worth_cons {p n x : Int} {r : List Int} : worth p n (x :: r) = (worth p n r * n + x) % p := by
  unfold worth
  rw [List.reverse_cons, List.foldl_append]
  rfl
theorem worth_ev {p n : Int} : ∀ r, Cong p (worth p n r) (ev n r)
  | [] => .refl _ _
  | x :: r => by
    rw [worth_cons]
    refine (Cong.mod _ _).trans ?_
    have h := ((worth_ev (p := p) (n := n) r).mul (Cong.refl p n)).add (Cong.refl p x)
    have e : ev n r * n + x = ev n (x :: r) := by
      show _ = x + n * ev n r
      grind
    rw [e] at h
    exact h
theorem ww_gen {p n : Int} : ∀ (r : List Int) (s f : Int), Cong p (r.foldl (fun (s : Int × Int) x => (s.1 + x * s.2, s.2 * n % p)) (s, f)).1 (s + f * ev n r)
  | [], s, f => ⟨0, by show s = s + f * 0 + p * 0; grind⟩
  | x :: r, s, f => by
    refine (ww_gen r (s + x * f) (f * n % p)).trans ?_
    have h := (Cong.refl p (s + x * f)).add ((Cong.mod p (f * n)).mul (Cong.refl p (ev n r)))
    refine h.trans ⟨0, ?_⟩
    show s + x * f + f * n * ev n r = s + f * (x + n * ev n r) + p * 0
    grind
theorem worth_lt {p n : Int} (h : 0 < p) (r : List Int) : worth p n r % p = worth p n r := by
  cases r with
  | nil => exact Int.zero_emod p
  | cons x r => rw [worth_cons, Int.emod_emod]
theorem worth_ww {p n : Int} (h : 0 < p) (r : List Int) : worth p n r = ww p (n % p) r := by
  rw [← worth_lt h r]
  unfold ww wwS
  refine Cong.eq ?_
  refine (worth_ev r).trans ((ev_cong (Cong.mod p n).symm r).trans ?_)
  refine Cong.symm ((ww_gen r 0 1).trans ⟨0, ?_⟩)
  grind
/-! rows -/
theorem snoc_ind {P : List Int → Prop} (h0 : P []) (hs : ∀ l x, P l → P (l ++ [x])) (l : List Int) : P l := by
  have h : ∀ l : List Int, P l.reverse := fun l => by
    induction l with
    | nil => exact h0
    | cons x l ih =>
      rw [List.reverse_cons]
      exact hs _ _ ih
  have := h l.reverse
  rw [List.reverse_reverse] at this
  exact this
theorem strip_eq (l : List Int) : ∃ k, l = strip l ++ List.replicate k 0 := by
  refine snoc_ind (P := fun l => ∃ k, l = strip l ++ List.replicate k 0) ?_ ?_ l
  · exact ⟨0, rfl⟩
  · intro l x ih
    by_cases hx : x = 0
    · subst hx
      obtain ⟨k, e⟩ := ih
      rw [strip_0]
      exact ⟨k + 1, by rw [List.replicate_succ', ← List.append_assoc, ← e]⟩
    · rw [strip_n hx]
      exact ⟨0, by simp⟩
theorem strip_strip (l : List Int) : strip (strip l) = strip l := by
  refine snoc_ind (P := fun l => strip (strip l) = strip l) ?_ ?_ l
  · rfl
  · intro l x ih
    by_cases hx : x = 0
    · subst hx
      rw [strip_0]
      exact ih
    · rw [strip_n hx, strip_n hx]
theorem strip_mem {l : List Int} {x : Int} (h : x ∈ strip l) : x ∈ l := by
  obtain ⟨k, e⟩ := strip_eq l
  rw [e]
  exact List.mem_append_left _ h
theorem bare_mem {p : Int} {l : List Int} (h : 0 < p) : ∀ y ∈ bare p l, 0 ≤ y ∧ y < p := fun y hy => by
  obtain ⟨x, _, rfl⟩ := List.mem_map.mp (strip_mem hy)
  exact ⟨Int.emod_nonneg _ (by omega), Int.emod_lt_of_pos _ h⟩
theorem bare_len (p : Int) (l : List Int) : (bare p l).length ≤ l.length := by
  have := strip_len (l.map fun x => x % p)
  rw [List.length_map] at this
  exact this
theorem map_mod {p : Int} {l : List Int} (h : ∀ y ∈ l, 0 ≤ y ∧ y < p) : (l.map fun x => x % p) = l := by
  refine (List.map_congr_left fun y hy => ?_).trans (List.map_id' l)
  exact Int.emod_eq_of_lt (h y hy).1 (h y hy).2
theorem bare_bare {p : Int} {l : List Int} (h : 0 < p) : bare p (bare p l) = bare p l := by
  have e : bare p (bare p l) = strip ((bare p l).map fun x => x % p) := rfl
  rw [e, map_mod (bare_mem h)]
  exact strip_strip _
theorem bare_0 {p : Int} {l : List Int} (h : 0 < p) : bare p (bare p l ++ [0]) = bare p l := by
  have e : bare p (bare p l ++ [0]) = strip ((bare p l ++ [0]).map fun x => x % p) := rfl
  rw [e, List.map_append, map_mod (bare_mem h)]
  show strip (bare p l ++ [0 % p]) = _
  rw [Int.zero_emod, strip_0]
  exact strip_strip _
theorem bare_1 {p : Int} {l : List Int} (h : 1 < p) : bare p (bare p l ++ [1]) ≠ bare p l := by
  have e : bare p (bare p l ++ [1]) = strip ((bare p l ++ [1]).map fun x => x % p) := rfl
  rw [e, List.map_append, map_mod (bare_mem (by omega))]
  show strip (bare p l ++ [1 % p]) ≠ _
  rw [Int.emod_eq_of_lt (by omega) h, strip_n (by decide)]
  intro z
  have := congrArg List.length z
  rw [List.length_append] at this
  simp at this
/-- a row whose number at k is not the stripped row's own there -/
theorem bare_at {p : Int} {l r : List Int} (h : bare p l = r) {k : Nat} {x y : Int} (hk : l[k]? = some x) (hr : r.getD k 0 = y) : x % p = y := by
  obtain ⟨n, e⟩ := strip_eq (l.map fun x => x % p)
  have e2 : (l.map fun x => x % p) = r ++ List.replicate n 0 := by rw [← h]; exact e
  have e3 : (l.map fun x => x % p)[k]? = some (x % p) := by rw [List.getElem?_map, hk]; rfl
  rw [e2] at e3
  by_cases hl : k < r.length
  · rw [List.getElem?_append_left hl] at e3
    rw [List.getD_eq_getElem?_getD, e3] at hr
    exact hr
  · rw [List.getElem?_append_right (by omega), List.getElem?_replicate] at e3
    rw [List.getD_eq_getElem?_getD, List.getElem?_eq_none (by omega)] at hr
    split at e3
    · rw [← Option.some.inj e3]
      exact hr
    · cases e3
theorem up_ne {p x : Int} (h : 1 < p) (h0 : 0 ≤ x) (h1 : x < p) : (x + 1) % p ≠ x := by
  by_cases e : x + 1 = p
  · rw [e, Int.emod_self]
    omega
  · rw [Int.emod_eq_of_lt (by omega) (by omega)]
    omega
/-- one number more by 1 -/
theorem other_ne {p : Int} {r : List Int} (h : 1 < p) (hr : ∀ y ∈ r, 0 ≤ y ∧ y < p) {k : Nat} {x : Int} (hk : r[k]? = some x) : bare p (r.take k ++ [x + 1] ++ r.drop (k + 1)) ≠ r := fun z => by
  have hl : k < r.length := (List.getElem?_eq_some_iff.mp hk).1
  have e1 : (r.take k ++ [x + 1] ++ r.drop (k + 1))[k]? = some (x + 1) := by
    rw [List.append_assoc, List.getElem?_append_right (by rw [List.length_take]; omega), List.length_take]
    have : k - min k r.length = 0 := by omega
    rw [this]
    rfl
  have e2 : r.getD k 0 = x := by rw [List.getD_eq_getElem?_getD, hk]; rfl
  have hx := hr x (List.mem_of_getElem? hk)
  exact up_ne h hx.1 hx.2 (bare_at z e1 e2)
end K10

set_option Elab.async false
set_option linter.all false
set_option maxRecDepth 100000
set_option maxHeartbeats 4000000
namespace K10
open PySem PySem.Spec PyProof.Rows L2 DL
section
variable {P : Program} {w : World} {K : PySem.W.Frag} {mg : Str → Option Value} {base : Heap} {A : Ad}
local macro_rules | `(tactic| walk_at "s0") => `(tactic| with_reducible first
  | refine ws_seq ?_ | refine ws_next ?_ | refine ws_ret ?_ | refine ws_retN ?_ | refine ws_if ?_ | refine ws_asg ?_ | refine ws_drop ?_ | refine ws_par ?_ | refine ws_break ?_ | refine ws_cont ?_
  | refine we_var rfl ?_ | refine we_int ?_ | refine we_non ?_ | refine we_bl ?_ | refine we_str ?_ | refine we_ty ?_ | refine we_dnew ?_ | refine we_op ?_ | refine we_un ?_
  | refine we_and ?_ | refine we_or ?_ | refine we_not ?_ | refine we_if ?_ | refine we_chain ?_ | refine we_cb ?_ | refine we_tup ?_ | refine we_lst ?_
  | refine wl_cons ?_ | refine wl_nil ?_ | refine wt_B ?_ | refine wt_test ?_ | refine wt_and ?_ | refine wt_or ?_ | refine wt_not ?_ | refine wt_yes ?_
  | refine wi_tup ?_ | refine wi_list ?_ | refine wg_tup rfl ?_ | refine wgs_cons ?_ | refine wgs_nil ?_
  | refine rd_add_int ?_ | refine rd_sub ?_ | refine rd_lt ?_ | refine rd_le ?_ | refine rd_gt ?_ | refine rd_ge ?_ | refine rd_eq_int ?_ | refine rd_ne_int ?_ | refine rd_eq_str ?_ | refine rd_ne_str ?_ | refine rd_eq_bl ?_ | refine rd_ne_bl ?_ | refine rd_is ?_ | refine rd_is_bl ?_ | refine rd_isnot ?_ | refine ru_neg ?_
  | refine rc_int ?_ | refine rc_abs ?_ | refine rc_anyF ?_ | refine rc_allF ?_
  | refine brT ?_ | refine brF ?_ | refine brT' ?_ | refine brF' ?_
  | refine ⟨_, rfl, ?_⟩)
set_option hygiene false in
local macro_rules | `(tactic| walk_at "s1") => `(tactic| first
  | refine we_isiLT ?_ | refine we_isiILT ?_ | refine wi_seqV (by rfl) (by rfl) ?_ | walk_at "s0" | refine ⟨true, by rfl, ?_⟩ | refine ⟨false, by rfl, ?_⟩ | refine we_ref ?_ | refine we_fld1 ?_ | refine ⟨_, _, _, _, rfl, T.n_Poly_prime, by rfl, ?_⟩ | refine ⟨_, _, _, _, rfl, T.n_Poly_row, by rfl, ?_⟩ | refine rc_isiB (r := true) (by rfl) ?_ | refine rc_isiO T.k_Poly ?_ | refine rc_isiN T.k_Poly (by rfl) ?_ | refine we_callF (by assumption) ?_ | refine we_callF (X := fun _ _ _ _ => False) xok0 ?_ | refine we_callFl (by assumption) ?_ | refine we_callFl (X := fun _ _ _ _ => False) xok0 ?_ | refine we_makeFl (by assumption) ?_ | refine we_makeFl (X := fun _ _ _ _ => False) xok0 ?_ | refine we_makeF (by assumption) ?_ | refine we_makeF (X := fun _ _ _ _ => False) xok0 ?_ | refine DX.ws_rs (by assumption) ?_ | refine wt_test ?_ | refine co_ret rfl (by rfl) ?_ | refine wg_nm (by rfl) ?_ | refine parB (by rfl) (by rfl) ?_ | refine szB (by rfl) ?_ | refine szL (by rfl) ?_ | refine brT2 (by rfl) ?_ | refine brF2 (by rfl) ?_ | refine brT3 (by rfl) ?_ | refine brF3 (by rfl) ?_ | refine rc_isiB (r := false) (by rfl) ?_)
/-! products of rows -/
/-- what r from its i-th number on adds at k -/
def cv (s : List Int) (k : Nat) : List Int → Nat → Int
  | [], _ => 0
  | x :: r, i => (if i ≤ k then x * s.getD (k - i) 0 else 0) + cv s k r (i + 1)
def cvL (s : List Int) (k : Nat) : List Int → Nat → List Int
  | [], _ => []
  | x :: r, i => if i ≤ k ∧ k - i < s.length then x * s.getD (k - i) 0 :: cvL s k r (i + 1) else cvL s k r (i + 1)
theorem cv_sum (s : List Int) (k : Nat) : ∀ (r : List Int) (i : Nat), (cvL s k r i).sum = cv s k r i
  | [], _ => rfl
  | x :: r, i => by
    unfold cvL cv
    by_cases h : i ≤ k ∧ k - i < s.length
    · rw [if_pos h, if_pos h.1, List.sum_cons, cv_sum s k r (i + 1)]
    · rw [if_neg h, cv_sum s k r (i + 1)]
      by_cases h1 : i ≤ k
      · rw [if_pos h1, List.getD_eq_getElem?_getD, List.getElem?_eq_none (by omega)]
        show _ = x * 0 + _
        omega
      · rw [if_neg h1]
        omega
def cvT (k n : Nat) : D → Bool
  | .tup [.int s, _] => decide (0 ≤ (k : Int) - s) && decide ((k : Int) - s < n)
  | _ => false
def cvF (s : List Int) (k : Nat) : D → D
  | .tup [.int i, .int x] => .int (x * s.getD ((k : Int) - i).toNat 0)
  | _ => .non
theorem cv_enum (s : List Int) (k : Nat) : ∀ (r : List Int) (j : Nat), (((r.map D.int).mapIdx fun i d => D.tup [.int ((i + j : Nat) : Int), d]).filter (cvT k s.length)).map (cvF s k) = (cvL s k r j).map D.int
  | [], _ => rfl
  | x :: r, j => by
    have ih := cv_enum s k r (j + 1)
    have e : (((x :: r).map D.int).mapIdx fun i d => D.tup [.int ((i + j : Nat) : Int), d]) = D.tup [.int ((0 + j : Nat) : Int), .int x] :: ((r.map D.int).mapIdx fun i d => D.tup [.int ((i + (j + 1) : Nat) : Int), d]) := by
      rw [List.map_cons, List.mapIdx_cons]
      congr 2
      funext i d
      have : i + 1 + j = i + (j + 1) := by omega
      rw [this]
    rw [e, Nat.zero_add, List.filter_cons]
    by_cases h : j ≤ k ∧ k - j < s.length
    · have t : cvT k s.length (D.tup [.int (j : Int), .int x]) = true := by
        show (decide (0 ≤ (k : Int) - j) && decide ((k : Int) - j < s.length)) = true
        rw [decide_eq_true (by omega), decide_eq_true (by omega)]
        rfl
      rw [if_pos t, List.map_cons, ih]
      have f : cvF s k (D.tup [.int (j : Int), .int x]) = .int (x * s.getD (k - j) 0) := by
        show D.int (x * s.getD ((k : Int) - j).toNat 0) = _
        have : ((k : Int) - j).toNat = k - j := by omega
        rw [this]
      rw [f]
      conv => rhs; unfold cvL
      rw [if_pos h, List.map_cons]
    · have t : ¬ cvT k s.length (D.tup [.int (j : Int), .int x]) = true := by
        show ¬ (decide (0 ≤ (k : Int) - j) && decide ((k : Int) - j < s.length)) = true
        intro z
        have z := Bool.and_eq_true_iff.mp z
        have z1 := of_decide_eq_true z.1
        have z2 := of_decide_eq_true z.2
        exact h ⟨by omega, by omega⟩
      rw [if_neg t, ih]
      conv => rhs; unfold cvL
      rw [if_neg h]
def small (r : List Int) : Prop := ∀ y ∈ r, 0 ≤ y ∧ y < 1000
noncomputable def gFold : List D → Option Out := gOf (fun x : (List Int × List Int) × Nat => [iL x.1.1, iL x.1.2, .int (x.2 : Int)]) (fun x => small x.1.1 ∧ x.1.1.length ≤ 1000 ∧ x.1.2.length ≤ 1000 ∧ x.2 ≤ 10000) fun x => .ret (.int (cv x.1.2 x.2 x.1.1 0))
theorem gFold_eq {r s : List Int} {k : Nat} (h1 : small r) (h2 : r.length ≤ 1000) (h3 : s.length ≤ 1000) (h4 : k ≤ 10000) : gFold [iL r, iL s, .int (k : Int)] = some (.ret (.int (cv s k r 0))) :=
  gOf_eq (ar := fun x : (List Int × List Int) × Nat => [iL x.1.1, iL x.1.2, .int (x.2 : Int)]) (x := ((r, s), k)) (fun x y e => by
    injection e with e1 e
    injection e with e2 e
    injection e with e3 _
    injection e1 with e1
    injection e2 with e2
    injection e3 with e3
    exact Prod.ext (Prod.ext (iL_inj e1) (iL_inj e2)) (Int.ofNat.inj e3)) ⟨h1, h2, h3, h4⟩
theorem ok_folded_at (T : Tx P K mg A) : CalX P w K mg base 1 "folded_at" (SpS K 3 (spcF gFold)) := by
  obtain ⟨a, fd, F, m, bi⟩ := T.f_folded_at
  refine ⟨a, fd, _, fnS F sc_folded_at rfl (fun cdv A' outer sh H E hr => ⟨_, (pss_one (ps_ret (pe_callB (DK.sum (K := K)) (by rfl) T.z_sum (by decide +kernel) (pa_cons (pe_lc (own := [("spot", 3), ("number", 4)]) (g := (gTup K 2 (gCons (gName 3) (gCons (gName 4) gNil)))) rfl sc_folded_at.nd (DK.pi_enum2 (K := K) (by rfl) T.z_enumerate (pa_cons (pv 0) pa_nil)) (blkOk_by (own := [("spot", 3), ("number", 4)]) (N := n_folded_at) (sc := (defScope s_folded_at)) (by first | decide +kernel | kernel_rfl)) (fun _ _ _ _ _ => (DK.pg_tup (K := K) rfl (pgs_cons (pg_name (i := 3) sc_folded_at.nd rfl (by first | exact .inl rfl | exact .inr rfl)) (pgs_cons (pg_name (i := 4) sc_folded_at.nd rfl (by first | exact .inl rfl | exact .inr rfl)) pgs_nil)))) (fun _ _ _ _ _ => (pts_one (pt_chain op_leK op_ltK pe_int (pe_op op_subK (pv 2) (pv 3)) (pe_callB (DK.len (K := K)) (by rfl) T.z_len (by decide +kernel) (pa_cons (pv 1) pa_nil))))) (fun _ _ _ _ _ => (pe_op op_mulK (pv 4) (pe_ix (DK.ix (K := K)) (pv 1) (pe_op op_subK (pv 2) (pv 3)) (fun _ _ => rfl))))) pa_nil)))), fun R k0 ds b hp hl hE => ?_⟩), m, F.kp, bi⟩
  obtain ⟨o, ho⟩ := hp
  obtain ⟨⟨⟨r, s⟩, k⟩, rfl, ⟨h1, h2, h3, h4⟩, rfl⟩ := gOf_inv ho
  dsimp only at h1 h2 h3 h4 ho hl ⊢
  repeat (walk_at "s1")
  refine we_lcF (kg_tup (kgs_cons (by decide) (kgs_cons (by decide) kgs_nil))) ?_
  refine wi_enumL ?_
  repeat (walk_at "s1")
  refine ⟨cvT k s.length, cvF s k, lt_size (by unfold enumD; rw [List.length_mapIdx, List.length_map]; omega), fun d hd oo acc => ?_, ?_⟩
  · obtain ⟨i, hi, ei⟩ := List.mem_iff_getElem.mp hd
    obtain ⟨y, hy, rfl⟩ := enumD_get (l := r.map D.int) (i := i) (d := d) (by rw [List.getElem?_eq_getElem hi, ei])
    obtain ⟨x, rfl, _⟩ := get_ints hy
    have xr : x ∈ r := by
      rw [List.getElem?_map] at hy
      cases e : r[i]? with
      | none => rw [e] at hy; cases hy
      | some z => rw [e] at hy; cases hy; exact List.mem_of_getElem? e
    have bx := h1 x xr
    refine wg_tup rfl ?_
    repeat (walk_at "s1")
    dsimp only [wipeD, List.map, List.set, startD, List.append, List.replicate]
    refine ⟨fun hz => ?_, fun hz => ?_⟩
    · refine ⟨false, rfl, ?_, fun z => (nomatch z), fun _ => ⟨rfl, rfl⟩⟩
      show false = (decide (0 ≤ (k : Int) - i) && _)
      rw [hz]
      rfl
    · repeat (walk_at "s1")
      refine rc_lenI ?_
      repeat (walk_at "s1")
      refine ⟨?_, fun ht => ?_, fun _ => ⟨rfl, rfl⟩⟩
      · show _ = (decide (0 ≤ (k : Int) - i) && decide ((k : Int) - i < s.length))
        rw [hz]
        rfl
      · have hz := of_decide_eq_true hz
        have ht := of_decide_eq_true ht
        have e1 : (k : Int) - i = ((k - i : Nat) : Int) := by omega
        repeat (walk_at "s1")
        rw [e1]
        refine rd_ix rfl (d := .int (s.getD (k - i) 0)) (DL.atI_nat ?_) ?_
        · rw [List.getElem?_map, List.getD_eq_getElem?_getD, List.getElem?_eq_getElem (by omega)]
          rfl
        refine rd_mul (mul_small (by omega) (by omega)) ?_
        refine ⟨?_, rfl, rfl⟩
        show _ = D.int (x * s.getD ((k : Int) - i).toNat 0)
        rw [e1, Int.toNat_natCast]
  · repeat (walk_at "s1")
    have e : ((enumD (r.map D.int)).filter (cvT k s.length)).map (cvF s k) = (cvL s k r 0).map D.int := cv_enum s k r 0
    rw [e]
    refine rc_sum ?_
    rw [cv_sum]
    exact ⟨ho, rfl⟩
def mulP (r s : List Int) : List Int := (List.range (r.length + s.length)).map fun k => cv s k r 0
noncomputable def gMul (A : Ad) : List D → Option Out := gOf (fun x : (Int × List Int) × Int × List Int => [poly A x.1.1 x.1.2, poly A x.2.1 x.2.2]) (fun x => isPrm x.1.1 = true ∧ small x.1.2 ∧ x.1.2.length ≤ 400 ∧ x.2.2.length ≤ 400)
  fun x => if x.1.1 = x.2.1 then .ret (poly A x.1.1 (bare x.1.1 (mulP x.1.2 x.2.2))) else .exc A.UnlikePrimes [] []
theorem gMul_eq {A : Ad} {p p' : Int} {r r' : List Int} (h1 : isPrm p = true) (h : small r) (h2 : r.length ≤ 400) (h3 : r'.length ≤ 400) : gMul A [poly A p r, poly A p' r'] = some (if p = p' then .ret (poly A p (bare p (mulP r r'))) else .exc A.UnlikePrimes [] []) := gOf_eq (x := ((p, r), p', r')) pp_inj ⟨h1, h, h2, h3⟩
theorem ok_mul (T : Tx P K mg A) : MetX P w K mg base 5 A.Poly "__mul__" (SpS K 2 (spcF (gMul A))) := by
  have c_check_like := @ok_check_like P w K mg base A T
  have c_Poly := @ok_Poly P w K mg base A T
  have c_folded_at := @ok_folded_at P w K mg base A T
  obtain ⟨f, fd, cl, me, F, bi⟩ := T.t_Poly___mul__
  refine ⟨f, fd, _, cl, me, fnS F sc_Poly___mul__ rfl (fun cdv A' outer sh H E hr => ⟨_, (pss_cons (ps_expr (pe_cx c_check_like hr (by omega) (by rfl) (passes_call (takes_of rfl rfl rfl rfl) (fun _ _ _ _ z => z)) (pa_cons (pv 0) (pa_cons (pv 1) pa_nil))))
  (pss_cons (ps_asg (pe_op (DK.op_add (K := K)) (pe_callB (DK.len (K := K)) (by rfl) T.z_len (by decide +kernel) (pa_cons (DK.pe_fld (K := K) (pv 0)) pa_nil)) (pe_callB (DK.len (K := K)) (by rfl) T.z_len (by decide +kernel) (pa_cons (DK.pe_fld (K := K) (pv 1)) pa_nil))) (pg_name (i := 2) sc_Poly___mul__.nd rfl (by first | exact .inl rfl | exact .inr rfl)))
  (pss_one (ps_ret (pe_mkx c_Poly hr (by omega) (by rfl) (passes_call (takes_of rfl rfl rfl rfl) (fun _ _ _ _ z => z)) (pa_cons (DK.pe_fld (K := K) (pv 0)) (pa_cons (pe_lc (own := [("place", 3)]) (g := (gName 3)) (tt := tYes) rfl sc_Poly___mul__.nd (pi_range1 (by rfl) T.z_range (pa_cons (pv 2) pa_nil)) (blkOk_by (own := [("place", 3)]) (N := n_Poly___mul__) (sc := (defScope s_Poly___mul__)) (by first | decide +kernel | kernel_rfl)) (fun _ _ _ _ _ => (pg_name (i := 3) sc_Poly___mul__.nd rfl (by first | exact .inl rfl | exact .inr rfl))) (fun _ _ _ _ _ => pts_nil) (fun _ _ _ _ _ => (pe_cx c_folded_at hr (by omega) (by rfl) passL (pa_cons (DK.pe_fld (K := K) (pv 0)) (pa_cons (DK.pe_fld (K := K) (pv 1)) (pa_cons (pv 3) pa_nil)))))) pa_nil))))))), fun R k0 ds b hp hl hE => ?_⟩), bi⟩
  obtain ⟨o, ho⟩ := hp
  obtain ⟨⟨⟨p, r⟩, p', r'⟩, rfl, ⟨h1, h, h2, h3⟩, rfl⟩ := gOf_inv ho
  have hx := xok_def hE
  have hX := xokW hx
  dsimp only at h1 h h2 h3 ho hl hE hx hX ⊢
  have bad : ∀ {C : Addr} {ns : List Str} {fs : List D}, gMul A [poly A p r, poly A p' r'] = some (.exc C ns fs) → (spcF (gMul A)).exc R [poly A p r, poly A p' r'] b C ns fs b := fun e => ⟨e, rfl⟩
  repeat (walk_at "s1")
  by_cases e : p = p'
  · subst e
    rw [if_pos rfl] at ho
    have gl := gLike_eq (A := A) (p := p) (p' := p) (r := r) (r' := r')
    rw [if_pos rfl] at gl
    refine co_ret rfl gl ?_
    repeat (walk_at "s1")
    refine rc_lenI ?_
    repeat (walk_at "s1")
    refine rc_lenI ?_
    repeat (walk_at "s1")
    refine we_lcM (kg_name (by decide)) ?_
    refine wi_rng1 ?_
    repeat (walk_at "s1")
    refine ⟨by omega, by omega, fun d => .int (cv r' (dI d).toNat r 0), lt_size (by rw [rngD_len]; omega), fun d hd oo acc => ?_, ?_⟩
    · obtain ⟨x, rfl, x1, x2⟩ := rng_mem hd
      obtain ⟨k, rfl⟩ := Int.eq_ofNat_of_zero_le x1
      repeat (walk_at "s1")
      refine co_ret rfl (gFold_eq h (by omega) (by omega) (by omega)) ?_
      exact ⟨rfl, rfl, rfl⟩
    · have e2 : (rngD 0 (((r.length : Int) + (r'.length : Int))).toNat).map (fun d => D.int (cv r' (dI d).toNat r 0)) = (mulP r r').map D.int := by
        have e3 : ((r.length : Int) + (r'.length : Int)).toNat = r.length + r'.length := by omega
        unfold rngD mulP
        rw [e3, List.map_map, List.map_map]
        refine List.map_congr_left fun i _ => ?_
        show D.int (cv r' ((0 : Int) + (i : Int)).toNat r 0) = D.int (cv r' i r 0)
        have : ((0 : Int) + (i : Int)).toNat = i := by omega
        rw [this]
      rw [e2]
      have lm : (mulP r r').length ≤ 1000 := by unfold mulP; rw [List.length_map, List.length_range]; omega
      repeat (walk_at "s1")
      refine mk_ok rfl (gPoly_ok h1 lm) ?_
      exact ⟨ho, rfl⟩
  · rw [if_neg e] at ho
    have gl := gLike_eq (A := A) (p := p) (p' := p') (r := r) (r' := r')
    rw [if_neg e] at gl
    exact co_exc rfl gl (bad ho)
def invI (n p : Int) : D → Bool
  | .int x => decide (x * n % p = 1)
  | _ => false
/-- the inverse, by the program's own going through -/
def invP (p n : Int) : Option D := ((rngD 1 (p - 1).toNat).filter (invI n p)).head?
def gTurned : List D → Option Out
  | [.int p, .int n] => if 1 < p ∧ p ≤ 101 ∧ 0 ≤ n ∧ n ≤ 101 then (invP p n).map .ret else none
  | _ => none
theorem ok_turned (T : Tx P K mg A) : CalX P w K mg base 1 "turned" (SpS K 2 (spcF gTurned)) := by
  obtain ⟨a, fd, F, m, bi⟩ := T.f_turned
  refine ⟨a, fd, _, fnS F sc_turned rfl (fun cdv A' outer sh H E hr => ⟨_, (pss_one (ps_ret (pe_ix (DK.ix (K := K)) (pe_lc (own := [("other", 2)]) (g := (gName 2)) rfl sc_turned.nd (pi_range2 (by rfl) T.z_range (pa_cons pe_int (pa_cons (pv 0) pa_nil))) (blkOk_by (own := [("other", 2)]) (N := n_turned) (sc := (defScope s_turned)) (by first | decide +kernel | kernel_rfl)) (fun _ _ _ _ _ => (pg_name (i := 2) sc_turned.nd rfl (by first | exact .inl rfl | exact .inr rfl))) (fun _ _ _ _ _ => (pts_one (pt_cmpR (DK.op_eq (K := K) (hr.units)) (pe_op op_modK (pe_op op_mulK (pv 2) (pv 1)) (pv 0)) pe_int (nomark _)))) (fun _ _ _ _ _ => (pv 2))) pe_int (fun _ _ => rfl)))), fun R k0 ds b hp hl hE => ?_⟩), m, F.kp, bi⟩
  obtain ⟨o, ho⟩ := hp
  obtain ⟨p, n, rfl⟩ : ∃ p n, ds = [.int p, .int n] := by
    unfold gTurned at ho
    split at ho
    · exact ⟨_, _, rfl⟩
    · cases ho
  obtain ⟨⟨h1, h2, h3, h4⟩, x, hi, ho⟩ : (1 < p ∧ p ≤ 101 ∧ 0 ≤ n ∧ n ≤ 101) ∧ ∃ x, invP p n = some x ∧ o = .ret x := by
    unfold gTurned at ho
    dsimp only at ho
    split at ho
    · rename_i hc
      cases e : invP p n with
      | none => rw [e] at ho; cases ho
      | some x => rw [e] at ho; cases ho; exact ⟨hc, x, rfl, rfl⟩
    · cases ho
  repeat (walk_at "s1")
  refine we_lcF (kg_name (by decide)) ?_
  repeat (walk_at "s1")
  refine wi_rng2 ?_
  repeat (walk_at "s1")
  refine ⟨1, p, rfl, ⟨by omega, by omega, by omega, by omega⟩, invI n p, id, lt_size (by rw [rngD_len]; omega), fun d hd oo acc => ?_, ?_⟩
  · obtain ⟨y, rfl, y1, y2⟩ := rng_mem hd
    repeat (walk_at "s1")
    refine rd_mul (.inl ⟨by omega, by omega⟩) ?_
    repeat (walk_at "s1")
    refine rd_mod (by omega) ?_
    repeat (walk_at "s1")
    refine ⟨rfl, fun _ => ?_, fun _ => ⟨rfl, rfl⟩⟩
    repeat (walk_at "s1")
    exact ⟨rfl, rfl, rfl⟩
  · repeat (walk_at "s1")
    refine rd_ix rfl (d := x) ?_ ?_
    · rw [List.map_id]
      unfold invP at hi
      generalize (rngD 1 (p - 1).toNat).filter (invI n p) = l at hi
      cases l with
      | nil => cases hi
      | cons y l => cases hi; exact atI_0
    · exact ⟨by subst ho; assumption, rfl⟩
def goodInv (p m : Int) : Bool := match invP p m with
  | some (.int v) => decide (0 < v) && (decide (v < p) && decide (v * m % p = 1))
  | _ => false
theorem inv_all : ((List.range 102).all fun p => !isPrm (p : Int) || (List.range p).all fun m => decide (m = 0) || goodInv (p : Int) (m : Int)) = true := by decide +kernel
theorem inv_ok {p m : Int} (hp : isPrm p = true) (h0 : 0 < m) (h1 : m < p) : ∃ v : Int, invP p m = some (.int v) ∧ 0 < v ∧ v < p ∧ v * m % p = 1 := by
  obtain ⟨p1, p2⟩ := prm_le hp
  obtain ⟨i, rfl⟩ := Int.eq_ofNat_of_zero_le (show 0 ≤ p by omega)
  obtain ⟨j, rfl⟩ := Int.eq_ofNat_of_zero_le (show 0 ≤ m by omega)
  have h := List.all_eq_true.mp inv_all i (List.mem_range.mpr (by omega))
  rw [hp] at h
  have h : (List.range i).all (fun m => decide (m = 0) || goodInv (i : Int) (m : Int)) = true := by simpa using h
  have h := List.all_eq_true.mp h j (List.mem_range.mpr (by omega))
  have n0 : j ≠ 0 := by omega
  have h : goodInv (i : Int) (j : Int) = true := by simpa [n0] using h
  unfold goodInv at h
  split at h
  · rename_i v e
    simp only [Bool.and_eq_true, decide_eq_true_eq] at h
    exact ⟨v, e, h.1, h.2.1, h.2.2⟩
  · cases h
end
end K10

set_option Elab.async false
set_option linter.all false
set_option maxRecDepth 100000
set_option maxHeartbeats 4000000
namespace K10
open PySem PySem.Spec PyProof.Rows L2 DL
/-! rows as functions -/
def ofF (n : Nat) (f : Nat → Int) : List Int := (List.range n).map f
theorem ofF_len {n : Nat} {f : Nat → Int} : (ofF n f).length = n := by unfold ofF; rw [List.length_map, List.length_range]
theorem ofF_get {n k : Nat} {f : Nat → Int} (h : k < n) : (ofF n f)[k]? = some (f k) := by
  unfold ofF
  rw [List.getElem?_map, List.getElem?_range h]
  rfl
theorem ofF_getD {n k : Nat} {f : Nat → Int} : (ofF n f).getD k 0 = if k < n then f k else 0 := by
  rw [List.getD_eq_getElem?_getD]
  by_cases h : k < n
  · rw [ofF_get h, if_pos h]
    rfl
  · rw [if_neg h, List.getElem?_eq_none (by rw [ofF_len]; omega)]
    rfl
theorem ofF_set {n i : Nat} {f : Nat → Int} {v : Int} : (ofF n f).set i v = ofF n (fun k => if k = i then v else f k) := by
  refine List.ext_getElem? fun k => ?_
  by_cases hk : k < n
  · rw [ofF_get hk, List.getElem?_set]
    by_cases e : i = k
    · subst e
      rw [if_pos rfl, ofF_len, if_pos hk, if_pos rfl]
    · rw [if_neg e, ofF_get hk, if_neg (fun z => e z.symm)]
  · rw [List.getElem?_eq_none (by rw [List.length_set, ofF_len]; omega), List.getElem?_eq_none (by rw [ofF_len]; omega)]
theorem ofF_self (r : List Int) : r = ofF r.length fun k => r.getD k 0 := by
  refine List.ext_getElem? fun k => ?_
  by_cases hk : k < r.length
  · rw [ofF_get hk, List.getD_eq_getElem?_getD, List.getElem?_eq_getElem hk]
    rfl
  · rw [List.getElem?_eq_none (by omega), List.getElem?_eq_none (by rw [ofF_len]; omega)]
theorem ofF_congr {n : Nat} {f g : Nat → Int} (h : ∀ k, k < n → f k = g k) : ofF n f = ofF n g := by
  unfold ofF
  exact List.map_congr_left fun k hk => h k (List.mem_range.mp hk)
/-- one number of a product's left side changed from 0 -/
theorem cv_set (s : List Int) (k : Nat) (v : Int) : ∀ (r : List Int) (t i : Nat), t < r.length → r.getD t 0 = 0 → cv s k (r.set t v) i = cv s k r i + if i + t ≤ k then v * s.getD (k - (i + t)) 0 else 0
  | [], _, _, h, _ => absurd h (Nat.not_lt_zero _)
  | x :: r, 0, i, _, h0 => by
    have hx : x = 0 := h0
    subst hx
    show (if i ≤ k then v * s.getD (k - i) 0 else 0) + cv s k r (i + 1) = ((if i ≤ k then 0 * s.getD (k - i) 0 else 0) + cv s k r (i + 1)) + if i + 0 ≤ k then v * s.getD (k - (i + 0)) 0 else 0
    have e0 : i + 0 = i := rfl
    simp only [e0]
    split <;> omega
  | x :: r, t + 1, i, h, h0 => by
    have ih := cv_set s k v r t (i + 1) (by simpa using h) h0
    show (if i ≤ k then x * s.getD (k - i) 0 else 0) + cv s k (r.set t v) (i + 1) = ((if i ≤ k then x * s.getD (k - i) 0 else 0) + cv s k r (i + 1)) + _
    rw [ih]
    have e : i + 1 + t = i + (t + 1) := by omega
    rw [e]
    omega
theorem cv_zero (s : List Int) (k : Nat) : ∀ (n i : Nat), cv s k (List.replicate n 0) i = 0
  | 0, _ => rfl
  | n + 1, i => by
    show (if i ≤ k then 0 * s.getD (k - i) 0 else 0) + cv s k (List.replicate n 0) (i + 1) = 0
    rw [cv_zero s k n (i + 1)]
    split <;> omega
/-- congruent numbers, congruent products -/
theorem cv_cong {p : Int} {s s' : List Int} (k : Nat) (hs : ∀ j, Cong p (s.getD j 0) (s'.getD j 0)) : ∀ (r r' : List Int) (i : Nat), (∀ j, Cong p (r.getD j 0) (r'.getD j 0)) → Cong p (cv s k r i) (cv s' k r' i)
  | [], [], _, _ => .refl _ _
  | [], y :: r', i, h => by
    have h0 : Cong p 0 y := h 0
    have ih := cv_cong k hs [] r' (i + 1) fun j => h (j + 1)
    show Cong p 0 ((if i ≤ k then y * s'.getD (k - i) 0 else 0) + cv s' k r' (i + 1))
    have a : Cong p 0 (if i ≤ k then y * s'.getD (k - i) 0 else 0) := by
      split
      · have z := h0.mul (Cong.refl p (s'.getD (k - i) 0))
        rw [Int.zero_mul] at z
        exact z
      · exact .refl _ _
    have z := a.add ih
    exact z
  | x :: r, [], i, h => by
    have h0 : Cong p x 0 := h 0
    have ih := cv_cong k hs r [] (i + 1) fun j => h (j + 1)
    show Cong p ((if i ≤ k then x * s.getD (k - i) 0 else 0) + cv s k r (i + 1)) 0
    have a : Cong p (if i ≤ k then x * s.getD (k - i) 0 else 0) 0 := by
      split
      · have z := h0.mul (Cong.refl p (s.getD (k - i) 0))
        rw [Int.zero_mul] at z
        exact z
      · exact .refl _ _
    have z := a.add ih
    exact z
  | x :: r, y :: r', i, h => by
    have h0 : Cong p x y := h 0
    have ih := cv_cong k hs r r' (i + 1) fun j => h (j + 1)
    show Cong p ((if i ≤ k then x * s.getD (k - i) 0 else 0) + cv s k r (i + 1)) ((if i ≤ k then y * s'.getD (k - i) 0 else 0) + cv s' k r' (i + 1))
    refine Cong.add ?_ ih
    split
    · exact h0.mul (hs _)
    · exact .refl _ _
/-- the stripped row by its numbers -/
theorem strip_getD (l : List Int) (k : Nat) : (strip l).getD k 0 = l.getD k 0 := by
  obtain ⟨n, e⟩ := strip_eq l
  by_cases h : k < (strip l).length
  · conv => rhs; rw [e]
    rw [List.getD_eq_getElem?_getD, List.getD_eq_getElem?_getD, List.getElem?_append_left h]
  · have z : l.getD k 0 = 0 := by
      rw [e, List.getD_eq_getElem?_getD, List.getElem?_append_right (by omega), List.getElem?_replicate]
      split <;> rfl
    rw [z, List.getD_eq_getElem?_getD, List.getElem?_eq_none (by omega)]
    rfl
theorem bare_getD {p : Int} (l : List Int) (k : Nat) : (bare p l).getD k 0 = l.getD k 0 % p := by
  have e : (bare p l).getD k 0 = ((l.map fun x => x % p)).getD k 0 := strip_getD _ k
  rw [e, List.getD_eq_getElem?_getD, List.getElem?_map, List.getD_eq_getElem?_getD]
  cases l[k]? with
  | none => exact (Int.zero_emod p).symm
  | some x => rfl
/-- the last number of a stripped row is not 0 -/
theorem strip_last {l : List Int} {r : List Int} {x : Int} (h : strip l = r ++ [x]) : x ≠ 0 := fun e => by
  subst e
  have z := strip_strip l
  rw [h, strip_0] at z
  have y := congrArg List.length z
  have := strip_len r
  rw [List.length_append] at y
  simp at y
  omega
theorem strip_ext {l l' : List Int} (h : ∀ k, l.getD k 0 = l'.getD k 0) : strip l = strip l' := by
  have key : ∀ a b : List Int, (∀ k, a.getD k 0 = b.getD k 0) → (strip a).length ≤ (strip b).length := fun a b h => by
    rcases List.eq_nil_or_concat (strip a) with e | ⟨r, x, e⟩
    · rw [e]; exact Nat.zero_le _
    · rw [List.concat_eq_append] at e
      have nx := strip_last e
      rw [e, List.length_append]
      show r.length + 1 ≤ _
      apply Classical.byContradiction
      intro hl
      have g : (strip a).getD r.length 0 = x := by
        rw [e, List.getD_eq_getElem?_getD, List.getElem?_append_right (Nat.le_refl _), Nat.sub_self]
        rfl
      rw [strip_getD, h, ← strip_getD, List.getD_eq_getElem?_getD, List.getElem?_eq_none (by omega)] at g
      exact nx g.symm
  have el : (strip l).length = (strip l').length := Nat.le_antisymm (key _ _ h) (key _ _ fun k => (h k).symm)
  rw [ofF_self (strip l), ofF_self (strip l'), el]
  refine ofF_congr fun k _ => ?_
  rw [strip_getD, strip_getD, h]
theorem map_getD {p : Int} (l : List Int) (k : Nat) : (l.map fun x => x % p).getD k 0 = l.getD k 0 % p := by
  rw [List.getD_eq_getElem?_getD, List.getElem?_map, List.getD_eq_getElem?_getD]
  cases l[k]? with
  | none => exact (Int.zero_emod p).symm
  | some x => rfl
theorem bare_ext {p : Int} {l l' : List Int} (h : ∀ k, Cong p (l.getD k 0) (l'.getD k 0)) : bare p l = bare p l' := strip_ext fun k => by rw [map_getD, map_getD]; exact (h k).eq
/-- a row that ends early -/
theorem bare_short {p : Int} {l : List Int} {m : Nat} (h : ∀ k, m ≤ k → l.getD k 0 % p = 0) : (bare p l).length ≤ m := by
  rcases List.eq_nil_or_concat (bare p l) with e | ⟨r, x, e⟩
  · rw [e]; exact Nat.zero_le _
  · rw [List.concat_eq_append] at e
    have nx : x ≠ 0 := strip_last e
    rw [e, List.length_append]
    apply Classical.byContradiction
    intro hl
    have hl : m ≤ r.length := by
      have : ¬ r.length + 1 ≤ m := hl
      omega
    have g : (bare p l).getD r.length 0 = x := by
      rw [e, List.getD_eq_getElem?_getD, List.getElem?_append_right (Nat.le_refl _), Nat.sub_self]
      rfl
    rw [bare_getD, h _ hl] at g
    exact nx g.symm
theorem pad_getD {n : Nat} {r : List Int} (h : r.length ≤ n) (k : Nat) : (padL n r).getD k 0 = r.getD k 0 := by
  unfold padL
  rw [List.getD_eq_getElem?_getD, List.getD_eq_getElem?_getD]
  by_cases hl : k < r.length
  · rw [List.getElem?_append_left hl]
  · rw [List.getElem?_append_right (by omega), List.getElem?_replicate, List.getElem?_eq_none (by omega)]
    split <;> rfl
theorem zip_getD {f : Int → Int → Int} (f0 : f 0 0 = 0) {a b : List Int} (h : a.length = b.length) (k : Nat) : (List.zipWith f a b).getD k 0 = f (a.getD k 0) (b.getD k 0) := by
  rw [List.getD_eq_getElem?_getD, List.getElem?_zipWith, List.getD_eq_getElem?_getD, List.getD_eq_getElem?_getD]
  by_cases hk : k < a.length
  · rw [List.getElem?_eq_getElem hk, List.getElem?_eq_getElem (by omega)]
    rfl
  · rw [List.getElem?_eq_none (by omega), List.getElem?_eq_none (show b.length ≤ k by omega)]
    exact f0.symm
theorem add_getD {r r' : List Int} (k : Nat) : (addL r r').getD k 0 = r.getD k 0 + r'.getD k 0 := by
  unfold addL
  rw [zip_getD rfl (by rw [len_pad (Nat.le_max_left _ _), len_pad (Nat.le_max_right _ _)]), pad_getD (Nat.le_max_left _ _), pad_getD (Nat.le_max_right _ _)]
theorem cv_out (s : List Int) (k : Nat) : ∀ (r : List Int) (i : Nat), r.length + i + s.length ≤ k + 1 → cv s k r i = 0
  | [], _, _ => rfl
  | x :: r, i, h => by
    rw [List.length_cons] at h
    show (if i ≤ k then x * s.getD (k - i) 0 else 0) + cv s k r (i + 1) = 0
    rw [cv_out s k r (i + 1) (by omega)]
    have z : s.getD (k - i) 0 = 0 := by rw [List.getD_eq_getElem?_getD, List.getElem?_eq_none (by omega)]; rfl
    rw [z]
    split <;> omega
theorem mul_getD {r s : List Int} (k : Nat) : (mulP r s).getD k 0 = cv s k r 0 := by
  have e : mulP r s = ofF (r.length + s.length) fun k => cv s k r 0 := rfl
  rw [e, ofF_getD]
  split
  · rfl
  · rw [cv_out s k r 0 (by omega)]
end K10

set_option Elab.async false
set_option linter.all false
set_option maxRecDepth 100000
set_option maxHeartbeats 4000000
namespace K10
open PySem PySem.Spec PyProof.Rows L2 DL
theorem ev_app (n : Int) : ∀ (r : List Int) (k : Nat), ev n (r ++ List.replicate k 0) = ev n r
  | [], 0 => rfl
  | [], k + 1 => by
    have ih := ev_app n [] k
    show 0 + n * ev n (List.replicate k 0) = 0
    have ih : ev n (List.replicate k 0) = 0 := ih
    rw [ih]
    grind
  | x :: r, k => by
    show x + n * ev n (r ++ List.replicate k 0) = x + n * ev n r
    rw [ev_app n r k]
theorem ev_mod {p n : Int} : ∀ r : List Int, Cong p (ev n (r.map fun x => x % p)) (ev n r)
  | [] => .refl _ _
  | x :: r => (Cong.mod p x).add ((Cong.refl p n).mul (ev_mod r))
theorem ev_bare {p n : Int} (r : List Int) : Cong p (ev n (bare p r)) (ev n r) := by
  obtain ⟨k, e⟩ := strip_eq (r.map fun x => x % p)
  have h := ev_mod (p := p) (n := n) r
  rw [e, ev_app] at h
  exact h
theorem worth_bare {p n : Int} (h : 0 < p) (r : List Int) : worth p n (bare p r) = worth p n r := by
  rw [← worth_lt h (bare p r), ← worth_lt h r]
  exact (((worth_ev (bare p r)).trans (ev_bare r)).trans (worth_ev r).symm).eq
/-! points, plain laws -/
theorem Cong.sub {p a b c d : Int} (h : Cong p a b) (h' : Cong p c d) : Cong p (a - c) (b - d) := by
  obtain ⟨k, e⟩ := h
  obtain ⟨l, e'⟩ := h'
  exact ⟨k - l, by grind⟩
theorem Cong.of_mod {p a b : Int} (h : a % p = b % p) : Cong p a b := by
  have h1 := (Cong.mod p a).symm
  rw [h] at h1
  exact h1.trans (Cong.mod p b)
/-- a prime's remainders have inverses -/
theorem cancel {p a b : Int} (hp : isPrm p = true) (h : Cong p (a * b) 0) (ha : a % p ≠ 0) : Cong p b 0 := by
  obtain ⟨p1, p2⟩ := prm_le hp
  have a0 := Int.emod_nonneg a (show p ≠ 0 by omega)
  have a1 := Int.emod_lt_of_pos a (show 0 < p by omega)
  obtain ⟨v, _, _, _, hv⟩ := inv_ok hp (show 0 < a % p by omega) a1
  have h1 : Cong p (v * (a % p)) 1 := .of_mod (by rw [hv, Int.emod_eq_of_lt (by omega) (by omega)])
  have h2 : Cong p (v * (a * b)) (1 * b) := by
    have z := ((Cong.refl p v).mul (Cong.mod p a).symm).trans h1
    have z := z.mul (Cong.refl p b)
    rw [Int.mul_assoc] at z
    exact z
  have h3 := (Cong.refl p v).mul h
  rw [Int.mul_zero] at h3
  rw [Int.one_mul] at h2
  exact h2.symm.trans h3
theorem ev_nil (n : Int) : ev n [] = 0 := rfl
theorem ev_cons (n x : Int) (r : List Int) : ev n (x :: r) = x + n * ev n r := rfl
theorem ev_zero {n : Int} : ∀ {l : List Int}, (∀ k, l.getD k 0 = 0) → ev n l = 0
  | [], _ => rfl
  | x :: r, h => by
    have h0 : x = 0 := h 0
    rw [ev_cons, ev_zero fun k => h (k + 1), h0]
    grind
theorem ev_ext {n : Int} : ∀ {l l' : List Int}, (∀ k, l.getD k 0 = l'.getD k 0) → ev n l = ev n l'
  | [], l', h => (ev_zero fun k => (h k).symm).symm
  | x :: r, [], h => ev_zero h
  | x :: r, y :: r', h => by
    have h0 : x = y := h 0
    rw [ev_cons, ev_cons, h0, ev_ext fun k => h (k + 1)]
theorem ev_addL {n : Int} {r s : List Int} : ev n (addL r s) = ev n r + ev n s := by
  have zip : ∀ a b : List Int, a.length = b.length → ev n (List.zipWith (fun x y => x + y) a b) = ev n a + ev n b := fun a => by
    induction a with
    | nil => intro b h; cases b with
      | nil => rfl
      | cons y b => cases h
    | cons x a ih => intro b h; cases b with
      | nil => cases h
      | cons y b =>
        have ih := ih b (by simpa using h)
        show (x + y) + n * ev n (List.zipWith (fun x y => x + y) a b) = (x + n * ev n a) + (y + n * ev n b)
        rw [ih]
        grind
  have e : addL r s = List.zipWith (fun x y => x + y) (padL (max r.length s.length) r) (padL (max r.length s.length) s) := rfl
  rw [e, zip _ _ (by rw [len_pad (Nat.le_max_left _ _), len_pad (Nat.le_max_right _ _)])]
  unfold padL
  rw [ev_app, ev_app]
theorem ev_scale {n c : Int} : ∀ r : List Int, ev n (r.map fun x => x * c) = ev n r * c
  | [] => by show (0 : Int) = 0 * c; grind
  | x :: r => by
    show x * c + n * ev n (r.map fun x => x * c) = (x + n * ev n r) * c
    rw [ev_scale r]
    grind
theorem scale_getD {c : Int} (r : List Int) (k : Nat) : (r.map fun x => x * c).getD k 0 = r.getD k 0 * c := by
  rw [List.getD_eq_getElem?_getD, List.getElem?_map, List.getD_eq_getElem?_getD]
  cases r[k]? with
  | none => show (0 : Int) = 0 * c; grind
  | some x => rfl
/-- a product with one of at most two numbers -/
theorem cv_two (s : List Int) (hs : s.length ≤ 2) (k : Nat) : ∀ (r : List Int) (i : Nat), cv s k r i = (if i ≤ k then r.getD (k - i) 0 * s.getD 0 0 else 0) + (if i + 1 ≤ k then r.getD (k - i - 1) 0 * s.getD 1 0 else 0)
  | [], i => by
    show (0 : Int) = _
    have z : ∀ j, ([] : List Int).getD j 0 = 0 := fun j => rfl
    rw [z, z]
    split <;> split <;> grind
  | x :: r, i => by
    show (if i ≤ k then x * s.getD (k - i) 0 else 0) + cv s k r (i + 1) = _
    rw [cv_two s hs k r (i + 1)]
    by_cases h : i ≤ k
    · by_cases h1 : i + 1 ≤ k
      · rw [if_pos h, if_pos h, if_pos h1, if_pos h1]
        obtain ⟨d, hd⟩ : ∃ d, k - i = d + 1 := ⟨k - i - 1, by omega⟩
        have e1 : k - (i + 1) = d := by omega
        rw [hd, e1]
        show _ + (r.getD d 0 * s.getD 0 0 + _) = r.getD d 0 * s.getD 0 0 + (x :: r).getD (d + 1 - 1) 0 * s.getD 1 0
        rw [Nat.add_sub_cancel]
        cases d with
        | zero =>
          rw [if_neg (by omega)]
          show x * s.getD 1 0 + _ = _ + x * s.getD 1 0
          grind
        | succ d =>
          rw [if_pos (by omega)]
          have e2 : s.getD (d + 1 + 1) 0 = 0 := by rw [List.getD_eq_getElem?_getD, List.getElem?_eq_none (by omega)]; rfl
          rw [e2]
          show _ + (_ + r.getD d 0 * s.getD 1 0) = _ + r.getD d 0 * s.getD 1 0
          grind
      · have e : k - i = 0 := by omega
        rw [if_pos h, if_pos h, if_neg h1, if_neg h1, if_neg (by omega), e]
        rfl
    · rw [if_neg h, if_neg h, if_neg (by omega), if_neg (by omega), if_neg (by omega)]
      rfl
theorem mul2_getD {r s : List Int} (hs : s.length ≤ 2) (k : Nat) : (mulP r s).getD k 0 = r.getD k 0 * s.getD 0 0 + (0 :: r).getD k 0 * s.getD 1 0 := by
  rw [mul_getD, cv_two s hs k r 0, if_pos (Nat.zero_le _), Nat.sub_zero]
  cases k with
  | zero =>
    rw [if_neg (by omega)]
    show _ + 0 = _ + 0 * _
    grind
  | succ k =>
    rw [if_pos (by omega), Nat.add_sub_cancel]
    rfl
theorem ev_mul2 {n : Int} {r s : List Int} (hs : s.length ≤ 2) : ev n (mulP r s) = ev n r * (s.getD 0 0 + n * s.getD 1 0) := by
  have e : ev n (mulP r s) = ev n (addL (r.map fun x => x * s.getD 0 0) ((0 :: r).map fun x => x * s.getD 1 0)) := ev_ext fun k => by
    rw [mul2_getD hs, add_getD, scale_getD, scale_getD]
  rw [e, ev_addL, ev_scale, ev_scale, ev_cons]
  grind
theorem small_two {p a b : Int} : (bare p [a, b]).length ≤ 2 := bare_len p [a, b]
/-- the product of all differences -/
def prodR (n : Int) (xs : List Int) : Int := xs.foldl (fun f x => f * (n - x)) 1
def stepR (p : Int) (r : List Int) (x : Int) : List Int := bare p (mulP r (bare p [-x, 1]))
def rootedP (p : Int) (xs : List Int) : List Int := xs.foldl (stepR p) (bare p [1])
theorem foldl_ind {α β : Type} {f : β → α → β} {P : β → Prop} : ∀ (l : List α) (b : β), P b → (∀ b a, a ∈ l → P b → P (f b a)) → P (l.foldl f b)
  | [], _, h, _ => h
  | a :: l, b, h, st => foldl_ind l (f b a) (st b a List.mem_cons_self h) fun b a ha => st b a (List.mem_cons_of_mem _ ha)
theorem rooted_ev {p n : Int} (hp : 1 < p) (xs : List Int) : Cong p (ev n (rootedP p xs)) (prodR n xs) := by
  unfold rootedP prodR
  have gen : ∀ (xs : List Int) (r : List Int) (f : Int), Cong p (ev n r) f → Cong p (ev n (xs.foldl (stepR p) r)) (xs.foldl (fun f x => f * (n - x)) f) := fun xs => by
    induction xs with
    | nil => exact fun _ _ h => h
    | cons x xs ih =>
      intro r f h
      refine ih _ _ ?_
      unfold stepR
      refine (ev_bare _).trans ?_
      rw [ev_mul2 small_two, bare_getD, bare_getD]
      refine h.mul ?_
      have h1 : Cong p ((-x) % p + n * (1 % p)) (-x + n * 1) := (Cong.mod p _).add ((Cong.refl p n).mul (Cong.mod p _))
      exact h1.trans ⟨0, by grind⟩
  refine gen xs _ 1 ((ev_bare _).trans ⟨0, ?_⟩)
  show 1 + n * 0 = 1 + p * 0
  grind
/-- monic -/
structure Monic (p : Int) (r : List Int) (m : Nat) : Prop where
  len : r.length = m + 1
  top : r.getD m 0 = 1
  bd : ∀ y ∈ r, 0 ≤ y ∧ y < p
theorem monic_one {p : Int} (hp : 1 < p) : Monic p (bare p [1]) 0 := by
  have e : bare p [1] = [1] := by
    show strip [1 % p] = [1]
    rw [Int.emod_eq_of_lt (by omega) (by omega)]
    rfl
  rw [e]
  exact ⟨rfl, rfl, fun y hy => by rw [List.mem_singleton.mp hy]; omega⟩
theorem getD_out {l : List Int} {k : Nat} (h : l.length ≤ k) : l.getD k 0 = 0 := by
  rw [List.getD_eq_getElem?_getD, List.getElem?_eq_none h]
  rfl
theorem monic_step {p x : Int} {r : List Int} {m : Nat} (hp : 1 < p) (h : Monic p r m) : Monic p (stepR p r x) (m + 1) := by
  unfold stepR
  have g : ∀ k, (bare p (mulP r (bare p [-x, 1]))).getD k 0 = (r.getD k 0 * ((-x) % p) + (0 :: r).getD k 0) % p := fun k => by
    rw [bare_getD, mul2_getD small_two, bare_getD, bare_getD]
    show (_ + _ * (1 % p)) % p = _
    rw [Int.emod_eq_of_lt (show (0 : Int) ≤ 1 by omega) hp, Int.mul_one]
    rfl
  have top : (bare p (mulP r (bare p [-x, 1]))).getD (m + 1) 0 = 1 := by
    rw [g, getD_out (by rw [h.len]; exact Nat.le_refl _)]
    show (0 * _ + r.getD m 0) % p = 1
    rw [h.top, Int.zero_mul, Int.zero_add, Int.emod_eq_of_lt (by omega) hp]
  have le : (bare p (mulP r (bare p [-x, 1]))).length ≤ m + 2 := bare_short fun k hk => by
    have z := g k
    rw [bare_getD] at z
    rw [z, getD_out (by rw [h.len]; omega)]
    cases k with
    | zero => omega
    | succ k =>
      show (0 * _ + r.getD k 0) % p = 0
      rw [getD_out (by rw [h.len]; omega), Int.zero_mul, Int.zero_add, Int.zero_emod]
  refine ⟨?_, top, bare_mem (by omega)⟩
  apply Classical.byContradiction
  intro hn
  rw [getD_out (by omega)] at top
  cases top
theorem rooted_monic {p : Int} (hp : 1 < p) (xs : List Int) : Monic p (rootedP p xs) xs.length := by
  have gen : ∀ (xs : List Int) (r : List Int) (m : Nat), Monic p r m → Monic p (xs.foldl (stepR p) r) (m + xs.length) := fun xs => by
    induction xs with
    | nil => exact fun _ _ h => h
    | cons x xs ih =>
      intro r m h
      have z := ih _ _ (monic_step (x := x) hp h)
      have e : m + 1 + xs.length = m + (x :: xs).length := by rw [List.length_cons]; omega
      rw [← e]
      exact z
  have z := gen xs _ 0 (monic_one hp)
  rw [Nat.zero_add] at z
  exact z
theorem prodR_cong {p n : Int} {f g : Int} : ∀ xs : List Int, Cong p f g → Cong p (xs.foldl (fun f x => f * (n - x)) f) (xs.foldl (fun f x => f * (n - x)) g) := fun xs => by
  induction xs generalizing f g with
  | nil => exact fun h => h
  | cons x xs ih => exact fun h => ih (h.mul (Cong.refl p _))
theorem prodR_zero {p n : Int} {xs : List Int} {x : Int} (hx : x ∈ xs) (h : n % p = x % p) : Cong p (prodR n xs) 0 := by
  have z : ∀ (xs : List Int) (f : Int), Cong p f 0 → Cong p (xs.foldl (fun f x => f * (n - x)) f) 0 := fun xs => by
    induction xs with
    | nil => exact fun _ h => h
    | cons y ys ih =>
      intro f hf
      refine ih _ ?_
      have z := hf.mul (Cong.refl p (n - y))
      rw [Int.zero_mul] at z
      exact z
  have gen : ∀ (xs : List Int) (f : Int), x ∈ xs → Cong p (xs.foldl (fun f x => f * (n - x)) f) 0 := fun xs => by
    induction xs with
    | nil => exact fun _ h => absurd h (by simp)
    | cons y ys ih =>
      intro f hy
      rcases List.mem_cons.mp hy with e | hy
      · subst e
        refine z ys _ ?_
        have c : Cong p (n - x) 0 := by
          have z := (Cong.of_mod h).sub (Cong.refl p x)
          rw [Int.sub_self] at z
          exact z
        have z := (Cong.refl p f).mul c
        rw [Int.mul_zero] at z
        exact z
      · exact ih _ hy
  exact gen xs 1 hx
theorem prodR_ne {p n : Int} (hp : isPrm p = true) {xs : List Int} (h : ∀ x ∈ xs, n % p ≠ x % p) : prodR n xs % p ≠ 0 := by
  obtain ⟨p1, p2⟩ := prm_le hp
  have gen : ∀ (xs : List Int) (f : Int), f % p ≠ 0 → (∀ x ∈ xs, n % p ≠ x % p) → (xs.foldl (fun f x => f * (n - x)) f) % p ≠ 0 := fun xs => by
    induction xs with
    | nil => exact fun _ h _ => h
    | cons y ys ih =>
      intro f hf hx
      refine ih _ (fun e => ?_) fun x hx' => hx x (List.mem_cons_of_mem _ hx')
      have c : Cong p (f * (n - y)) 0 := .of_mod (by rw [e, Int.zero_emod])
      have c2 := cancel hp c hf
      have z := c2.add (Cong.refl p y)
      have e2 : n - y + y = n := by omega
      rw [e2, Int.zero_add] at z
      exact hx y List.mem_cons_self z.eq
  refine gen xs 1 ?_ h
  rw [Int.emod_eq_of_lt (by omega) (by omega)]
  decide
/-! a polynomial with more roots than its degree -/
def qd (z : Int) : List Int → List Int
  | [] => []
  | x :: r => ev z r :: qd z r
theorem qd_ev {n z : Int} : ∀ l : List Int, ev n l - ev z l = (n - z) * ev n (qd z l)
  | [] => by show (0 : Int) - 0 = (n - z) * 0; grind
  | x :: r => by
    have ih := qd_ev (n := n) (z := z) r
    show (x + n * ev n r) - (x + z * ev z r) = (n - z) * (ev z r + n * ev n (qd z r))
    have e : ev n r = ev z r + (n - z) * ev n (qd z r) := by rw [← ih]; grind
    rw [e]
    grind
theorem qd_len {z : Int} : ∀ l : List Int, (qd z l).length = l.length
  | [] => rfl
  | x :: r => by rw [List.length_cons, ← qd_len (z := z) r]; rfl
theorem qd_last {z : Int} : ∀ (l : List Int) (k : Nat), l.length ≤ k + 1 → (qd z l).getD k 0 = 0
  | [], _, _ => rfl
  | [x], 0, _ => rfl
  | x :: y :: r, 0, h => by simp at h
  | [x], k + 1, _ => rfl
  | x :: y :: r, k + 1, h => qd_last (y :: r) k (by simpa using h)
theorem qd_zero {p z : Int} : ∀ l : List Int, Cong p (ev z l) 0 → (∀ k, Cong p ((qd z l).getD k 0) 0) → ∀ k, Cong p (l.getD k 0) 0
  | [], _, _, k => .refl p 0
  | x :: r, h, hq, k => by
    have h0 : Cong p (ev z r) 0 := hq 0
    cases k with
    | succ k => exact qd_zero r h0 (fun k => hq (k + 1)) k
    | zero =>
      show Cong p x 0
      have c := h.sub ((Cong.refl p z).mul h0)
      rw [ev_cons, Int.mul_zero] at c
      have e : x + z * ev z r - z * ev z r = x := by omega
      rw [e] at c
      exact c
/-- the row cut to so many numbers -/
theorem many_roots {p : Int} (hp : isPrm p = true) : ∀ (zs : List Int) (l : List Int), (∀ k, zs.length ≤ k → l.getD k 0 = 0) → (zs.map fun z => z % p).Nodup → (∀ z ∈ zs, Cong p (ev z l) 0) → ∀ k, Cong p (l.getD k 0) 0
  | [], l, hl, _, _, k => by rw [hl k (Nat.zero_le _)]; exact .refl p 0
  | z :: zs, l, hl, nd, hz, k => by
    rw [List.map_cons] at nd
    obtain ⟨n1, n2⟩ := List.nodup_cons.mp nd
    -- l may be taken of at most so many numbers
    have el : ∀ n, ev n (l.take (zs.length + 1)) = ev n l := fun n => ev_ext fun k => by
      by_cases h : k < zs.length + 1
      · rw [List.getD_eq_getElem?_getD, List.getElem?_take_of_lt h, ← List.getD_eq_getElem?_getD]
      · rw [hl k (by rw [List.length_cons]; omega), getD_out (by rw [List.length_take]; omega)]
    have gl : ∀ k, (l.take (zs.length + 1)).getD k 0 = l.getD k 0 := fun k => by
      by_cases h : k < zs.length + 1
      · rw [List.getD_eq_getElem?_getD, List.getElem?_take_of_lt h, ← List.getD_eq_getElem?_getD]
      · rw [hl k (by rw [List.length_cons]; omega), getD_out (by rw [List.length_take]; omega)]
    rw [← gl k]
    have ll : (l.take (zs.length + 1)).length ≤ zs.length + 1 := by rw [List.length_take]; omega
    have hz' : ∀ y ∈ z :: zs, Cong p (ev y (l.take (zs.length + 1))) 0 := fun y hy => by rw [el]; exact hz y hy
    generalize l.take (zs.length + 1) = t at ll hz'
    refine qd_zero t (hz' z List.mem_cons_self) ?_ k
    refine many_roots hp zs (qd z t) (fun k hk => qd_last t k (by omega)) n2 fun y hy => ?_
    have e := qd_ev (n := y) (z := z) t
    have c := (hz' y (List.mem_cons_of_mem _ hy)).sub (hz' z List.mem_cons_self)
    rw [e, Int.sub_zero] at c
    refine cancel hp c fun h => ?_
    apply n1
    have c2 : Cong p (y - z) 0 := .of_mod (by rw [h, Int.zero_emod])
    have c3 := c2.add (Cong.refl p z)
    have e2 : y - z + z = y := by omega
    rw [e2, Int.zero_add] at c3
    rw [← c3.eq]
    exact List.mem_map_of_mem hy
end K10

set_option Elab.async false
set_option linter.all false
set_option maxRecDepth 100000
set_option maxHeartbeats 4000000
namespace K10
open PySem PySem.Spec PyProof.Rows L2 DL
section
variable {P : Program} {w : World} {K : PySem.W.Frag} {mg : Str → Option Value} {base : Heap} {A : Ad}
local macro_rules | `(tactic| walk_at "s0") => `(tactic| with_reducible first
  | refine ws_seq ?_ | refine ws_next ?_ | refine ws_ret ?_ | refine ws_retN ?_ | refine ws_if ?_ | refine ws_asg ?_ | refine ws_drop ?_ | refine ws_par ?_ | refine ws_break ?_ | refine ws_cont ?_
  | refine we_var rfl ?_ | refine we_int ?_ | refine we_non ?_ | refine we_bl ?_ | refine we_str ?_ | refine we_ty ?_ | refine we_dnew ?_ | refine we_op ?_ | refine we_un ?_
  | refine we_and ?_ | refine we_or ?_ | refine we_not ?_ | refine we_if ?_ | refine we_chain ?_ | refine we_cb ?_ | refine we_tup ?_ | refine we_lst ?_
  | refine wl_cons ?_ | refine wl_nil ?_ | refine wt_B ?_ | refine wt_test ?_ | refine wt_and ?_ | refine wt_or ?_ | refine wt_not ?_ | refine wt_yes ?_
  | refine wi_tup ?_ | refine wi_list ?_ | refine wg_tup rfl ?_ | refine wgs_cons ?_ | refine wgs_nil ?_
  | refine rd_add_int ?_ | refine rd_sub ?_ | refine rd_lt ?_ | refine rd_le ?_ | refine rd_gt ?_ | refine rd_ge ?_ | refine rd_eq_int ?_ | refine rd_ne_int ?_ | refine rd_eq_str ?_ | refine rd_ne_str ?_ | refine rd_eq_bl ?_ | refine rd_ne_bl ?_ | refine rd_is ?_ | refine rd_is_bl ?_ | refine rd_isnot ?_ | refine ru_neg ?_
  | refine rc_int ?_ | refine rc_abs ?_ | refine rc_anyF ?_ | refine rc_allF ?_
  | refine brT ?_ | refine brF ?_ | refine brT' ?_ | refine brF' ?_
  | refine ⟨_, rfl, ?_⟩)
set_option hygiene false in
local macro_rules | `(tactic| walk_at "s1") => `(tactic| first
  | refine we_isiLT ?_ | refine we_isiILT ?_ | refine wi_seqV (by rfl) (by rfl) ?_ | walk_at "s0" | refine ⟨true, by rfl, ?_⟩ | refine ⟨false, by rfl, ?_⟩ | refine we_ref ?_ | refine we_fld1 ?_ | refine ⟨_, _, _, _, rfl, T.n_Poly_prime, by rfl, ?_⟩ | refine ⟨_, _, _, _, rfl, T.n_Poly_row, by rfl, ?_⟩ | refine rc_isiB (r := true) (by rfl) ?_ | refine rc_isiO T.k_Poly ?_ | refine rc_isiN T.k_Poly (by rfl) ?_ | refine we_callF (by assumption) ?_ | refine we_callF (X := fun _ _ _ _ => False) xok0 ?_ | refine we_callFl (by assumption) ?_ | refine we_callFl (X := fun _ _ _ _ => False) xok0 ?_ | refine we_makeFl (by assumption) ?_ | refine we_makeFl (X := fun _ _ _ _ => False) xok0 ?_ | refine we_makeF (by assumption) ?_ | refine we_makeF (X := fun _ _ _ _ => False) xok0 ?_ | refine DX.ws_rs (by assumption) ?_ | refine wt_test ?_ | refine co_ret rfl (by rfl) ?_ | refine wg_nm (by rfl) ?_ | refine parB (by rfl) (by rfl) ?_ | refine szB (by rfl) ?_ | refine szL (by rfl) ?_ | refine brT2 (by rfl) ?_ | refine brF2 (by rfl) ?_ | refine brT3 (by rfl) ?_ | refine brF3 (by rfl) ?_ | refine rc_isiB (r := false) (by rfl) ?_)
/-! rooted -/
def itemsD : D → List D
  | .lst l => l
  | .tup l => l
  | _ => []
def okR (e : D) : Bool := okO e && decide ((itemsD e).length ≤ 30)
def gRootB (A : Ad) (d e : D) : Out := match d with
  | .int p => if isPrm p = true then (match oddD e with
    | .non => .ret (poly A p (rootedP p (intsD e)))
    | x => .exc A.BadNumbers ["index"] [x]) else .exc A.BadPrime ["prime"] [d]
  | _ => .exc A.BadPrime ["prime"] [d]
def gRooted (A : Ad) : List D → Option Out
  | [d, e] => if ((tyN d).isSome && okR e) = true then some (gRootB A d e) else none
  | _ => none
theorem rooted_take {p : Int} {xs : List Int} {i : Nat} {x : Int} (h : xs[i]? = some x) : rootedP p (xs.take (i + 1)) = stepR p (rootedP p (xs.take i)) x := by
  unfold rootedP
  rw [List.take_add_one, h, List.foldl_append]
  rfl
theorem rooted_small {p : Int} (hp : isPrm p = true) (xs : List Int) : small (rootedP p xs) := fun y hy => by
  obtain ⟨p1, p2⟩ := prm_le hp
  have := (rooted_monic (p := p) (by omega) xs).bd y hy
  omega
theorem rooted_len {p : Int} (hp : isPrm p = true) (xs : List Int) : (rootedP p xs).length = xs.length + 1 := (rooted_monic (by have := prm_le hp; omega) xs).len
theorem get_iL {l : List Int} {j : Nat} {d : D} (h : (l.map D.int)[j]? = some d) : d = .int (l.getD j 0) ∧ l[j]? = some (l.getD j 0) ∧ j < l.length := by
  have hl := (List.getElem?_eq_some_iff.mp h).1
  rw [List.length_map] at hl
  rw [List.getElem?_map] at h
  rw [List.getD_eq_getElem?_getD]
  cases e : l[j]? with
  | none => rw [e] at h; cases h
  | some u => rw [e] at h; cases h; exact ⟨rfl, rfl, hl⟩
theorem ok_rooted (T : Tx P K mg A) : CalX P w K mg base 6 "rooted" (spOr (SpS K 2 (spcF (gRooted A))) (SpR2 K (fun p xs => isPrm p = true ∧ xs.length ≤ 30) fun p xs => poly A p (rootedP p xs))) := by
  have c_check_prime := @ok_check_prime P w K mg base A T
  have c_first_odd := @ok_first_odd P w K mg base A T
  have c_Poly := @ok_Poly P w K mg base A T
  have c_Poly___mul__ := @ok_mul P w K mg base A T
  obtain ⟨a, fd, F, m, bi⟩ := T.f_rooted
  refine ⟨a, fd, _, fn_or (fnS F sc_rooted rfl (fun cdv A' outer sh H E hr => ⟨_, (pss_cons (ps_expr (pe_cx c_check_prime hr (by omega) (by rfl) (passes_call (takes_of rfl rfl rfl rfl) (fun _ _ _ _ z => z)) (pa_cons (pv 0) pa_nil)))
  (pss_cons (ps_asg (pe_cx c_first_odd hr (by omega) (by rfl) (passes_call (takes_of rfl rfl rfl rfl) (fun _ _ _ _ z => z)) (pa_cons (pv 1) pa_nil)) (pg_name (i := 2) sc_rooted.nd rfl (by first | exact .inl rfl | exact .inr rfl)))
  (pss_cons (ps_if (pt_cmpR op_isnotK (pv 2) pe_non (nomark _))
  (pss_one (DX.ps_rs (takes_of rfl rfl rfl rfl) T.x_BadNumbers (by decide) (by decide) hr (pa_cons (pv 2) pa_nil)))
  pss_nil)
  (pss_cons (ps_asg (pe_mkx c_Poly hr (by omega) (by rfl) (passes_call (takes_of rfl rfl rfl rfl) (fun _ _ _ _ z => z)) (pa_cons (pv 0) (pa_cons (pe_lst (pa_cons pe_int pa_nil)) pa_nil))) (pg_name (i := 3) sc_rooted.nd rfl (by first | exact .inl rfl | exact .inr rfl)))
  (pss_cons (ps_for (passes_of rfl) rfl (DK.pi_seq (K := K) (pv 1)) (pg_name (i := 4) sc_rooted.nd rfl (by first | exact .inl rfl | exact .inr rfl))
  (pss_one (ps_asg (pe_op (DK.op_binI (nm := "__mul__") rfl c_Poly___mul__ (T.k_Poly).sf hr (by omega) (passes_call (takes_of rfl rfl rfl rfl) (fun _ _ _ _ z => z))) (pv 3) (pe_mkx c_Poly hr (by omega) (by rfl) (passes_call (takes_of rfl rfl rfl rfl) (fun _ _ _ _ z => z)) (pa_cons (pv 0) (pa_cons (pe_lst (pa_cons (pe_un un_negK (pv 4)) (pa_cons pe_int pa_nil))) pa_nil)))) (pg_name (i := 3) sc_rooted.nd rfl (by first | exact .inl rfl | exact .inr rfl)))))
  (pss_one (ps_ret (pv 3)))))))), fun R k0 ds b hp hl hE => ?_⟩))
    (fnR2 F sc_rooted rfl (fun cdv A' outer sh H E hr => ⟨_, (pss_cons (ps_expr (pe_cx c_check_prime hr (by omega) (by rfl) (passes_call (takes_of rfl rfl rfl rfl) (fun _ _ _ _ z => z)) (pa_cons (pv 0) pa_nil)))
  (pss_cons (ps_asg (pe_cx c_first_odd hr (by omega) (by rfl) (passes_call (takes_of rfl rfl rfl rfl) (fun _ _ _ _ z => z)) (pa_cons (pv 1) pa_nil)) (pg_name (i := 2) sc_rooted.nd rfl (by first | exact .inl rfl | exact .inr rfl)))
  (pss_cons (ps_if (pt_cmpR op_isnotK (pv 2) pe_non (nomark _))
  (pss_one (DX.ps_rs (takes_of rfl rfl rfl rfl) T.x_BadNumbers (by decide) (by decide) hr (pa_cons (pv 2) pa_nil)))
  pss_nil)
  (pss_cons (ps_asg (pe_mkx c_Poly hr (by omega) (by rfl) (passes_call (takes_of rfl rfl rfl rfl) (fun _ _ _ _ z => z)) (pa_cons (pv 0) (pa_cons (pe_lst (pa_cons pe_int pa_nil)) pa_nil))) (pg_name (i := 3) sc_rooted.nd rfl (by first | exact .inl rfl | exact .inr rfl)))
  (pss_cons (ps_for (passes_of rfl) rfl (DK.pi_seq (K := K) (pv 1)) (pg_name (i := 4) sc_rooted.nd rfl (by first | exact .inl rfl | exact .inr rfl))
  (pss_one (ps_asg (pe_op (DK.op_binI (nm := "__mul__") rfl c_Poly___mul__ (T.k_Poly).sf hr (by omega) (passes_call (takes_of rfl rfl rfl rfl) (fun _ _ _ _ z => z))) (pv 3) (pe_mkx c_Poly hr (by omega) (by rfl) (passes_call (takes_of rfl rfl rfl rfl) (fun _ _ _ _ z => z)) (pa_cons (pv 0) (pa_cons (pe_lst (pa_cons (pe_un un_negK (pv 4)) (pa_cons pe_int pa_nil))) pa_nil)))) (pg_name (i := 3) sc_rooted.nd rfl (by first | exact .inl rfl | exact .inr rfl)))))
  (pss_one (ps_ret (pv 3)))))))), fun k0 o p xs r hp => ?_⟩)), m, F.kp, bi⟩
  · obtain ⟨oo, ho⟩ := hp
    obtain ⟨d, e, rfl⟩ : ∃ d e, ds = [d, e] := by
      match ds, hl with
      | [d, e], _ => exact ⟨d, e, rfl⟩
    have hx := xok_def hE
    have hX := xokW hx
    have kk : (tyN d).isSome = true ∧ okR e = true := by
      by_cases h : ((tyN d).isSome && okR e) = true
      · exact Bool.and_eq_true_iff.mp h
      · have z : gRooted A [d, e] = none := if_neg h
        rw [z] at ho
        cases ho
    have kO := (Bool.and_eq_true_iff.mp kk.2).1
    have kL := of_decide_eq_true (Bool.and_eq_true_iff.mp kk.2).2
    have eg : gRooted A [d, e] = some (gRootB A d e) := if_pos (by rw [kk.1, kk.2]; rfl)
    have bad : ∀ {C : Addr} {ns : List Str} {fs : List D}, gRootB A d e = .exc C ns fs → (spcF (gRooted A)).exc R [d, e] b C ns fs b := fun z => ⟨by rw [eg, z], rfl⟩
    repeat (walk_at "s1")
    cases h0 : isIntD d with
    | false =>
      refine co_exc rfl (gPrime_bad kk.1 h0) (bad ?_)
      cases d <;> first | rfl | (cases h0; done)
    | true =>
      obtain ⟨p, rfl⟩ : ∃ p, d = .int p := by cases d <;> first | exact ⟨_, rfl⟩ | cases h0
      refine co_if rfl gPrime_int (fun h1 => ?_) (fun h1 => ?_)
      · refine .ret ?_
        obtain ⟨p1, p2⟩ := prm_le h1
        repeat (walk_at "s1")
        refine co_ret rfl (show gOdd [e] = some (.ret (oddD e)) from if_pos kO) ?_
        cases h2 : oddD e with
        | non =>
          obtain ⟨xs, lx, es⟩ : ∃ xs : List Int, xs.length ≤ 30 ∧ (e = .lst (xs.map D.int) ∨ e = .tup (xs.map D.int)) := by
            cases e with
            | lst l =>
              have hn : oddI l 0 = none := by
                cases q : oddI l 0 with
                | none => rfl
                | some i =>
                  have h2 : oddO (oddI l 0) = .non := h2
                  rw [q] at h2
                  cases h2
              obtain ⟨xs, rfl⟩ := ints_of hn
              have kL : (xs.map D.int).length ≤ 30 := kL
              exact ⟨xs, by rw [List.length_map] at kL; exact kL, .inl rfl⟩
            | tup l =>
              have hn : oddI l 0 = none := by
                cases q : oddI l 0 with
                | none => rfl
                | some i =>
                  have h2 : oddO (oddI l 0) = .non := h2
                  rw [q] at h2
                  cases h2
              obtain ⟨xs, rfl⟩ := ints_of hn
              have kL : (xs.map D.int).length ≤ 30 := kL
              exact ⟨xs, by rw [List.length_map] at kL; exact kL, .inr rfl⟩
            | _ => cases h2
          have ei : intsD e = xs := by
            have z : (xs.map D.int).map dI = xs := by
              rw [List.map_map]
              exact (List.map_congr_left fun _ _ => rfl).trans (List.map_id' xs)
            rcases es with rfl | rfl <;> exact z
          have done : gRooted A [.int p, e] = some (.ret (poly A p (rootedP p xs))) := by
            rw [eg]
            simp [gRootB, h1, h2, ei]
          rcases es with rfl | rfl
          · repeat (walk_at "s1")
            refine mk_ok rfl (gPoly_ok (xs := [1]) h1 (by decide)) ?_
            refine wg_nm (by rfl) ?_
            refine ws_seq (ws_for ?_)
            refine wi_seqV (by rfl) (by rfl) ?_
            dsimp only [List.set]
            refine ⟨fun i ς => ∃ x2 x4, ς = { δ := [some (.int p), some (.lst (xs.map D.int)), x2, some (poly A p (rootedP p (xs.take i))), x4], b := b }, ⟨_, none, rfl⟩, ?_, ?_⟩
            · rintro i d ς hi ⟨x2, x4, rfl⟩
              obtain ⟨rfl, hx', il⟩ := get_iL hi
              have lt : (xs.take i).length ≤ 30 := by rw [List.length_take]; omega
              have l1 := rooted_len h1 (xs.take i)
              have l2 := bare_len p [-(xs.getD i 0), 1]
              have l2 : (bare p [-(xs.getD i 0), 1]).length ≤ 2 := l2
              have gm := gMul_eq (A := A) (p := p) (p' := p) (r := rootedP p (xs.take i)) (r' := bare p [-(xs.getD i 0), 1]) h1 (rooted_small h1 _) (by omega) (by omega)
              rw [if_pos rfl] at gm
              have et := rooted_take (p := p) hx'
              refine wg_nm (by rfl) ?_
              refine ws_asg (we_op (we_var rfl ?_))
              repeat (walk_at "s1")
              refine mk_ok rfl (gPoly_ok (xs := [-(xs.getD i 0), 1]) h1 (show 2 ≤ 1000 by decide)) ?_
              refine rd_binI gm ?_
              refine wg_nm (by rfl) ?_
              dsimp only [List.set]
              exact ⟨x2, some (.int (xs.getD i 0)), by rw [et]; rfl⟩
            · rintro ς ⟨x2, x4, rfl⟩
              rw [List.length_map, List.take_length]
              repeat (walk_at "s1")
              exact ⟨done, rfl⟩
          · repeat (walk_at "s1")
            refine mk_ok rfl (gPoly_ok (xs := [1]) h1 (by decide)) ?_
            refine wg_nm (by rfl) ?_
            refine ws_seq (ws_for ?_)
            refine wi_seqV (by rfl) (by rfl) ?_
            dsimp only [List.set]
            refine ⟨fun i ς => ∃ x2 x4, ς = { δ := [some (.int p), some (.tup (xs.map D.int)), x2, some (poly A p (rootedP p (xs.take i))), x4], b := b }, ⟨_, none, rfl⟩, ?_, ?_⟩
            · rintro i d ς hi ⟨x2, x4, rfl⟩
              obtain ⟨rfl, hx', il⟩ := get_iL hi
              have lt : (xs.take i).length ≤ 30 := by rw [List.length_take]; omega
              have l1 := rooted_len h1 (xs.take i)
              have l2 := bare_len p [-(xs.getD i 0), 1]
              have l2 : (bare p [-(xs.getD i 0), 1]).length ≤ 2 := l2
              have gm := gMul_eq (A := A) (p := p) (p' := p) (r := rootedP p (xs.take i)) (r' := bare p [-(xs.getD i 0), 1]) h1 (rooted_small h1 _) (by omega) (by omega)
              rw [if_pos rfl] at gm
              have et := rooted_take (p := p) hx'
              refine wg_nm (by rfl) ?_
              refine ws_asg (we_op (we_var rfl ?_))
              repeat (walk_at "s1")
              refine mk_ok rfl (gPoly_ok (xs := [-(xs.getD i 0), 1]) h1 (show 2 ≤ 1000 by decide)) ?_
              refine rd_binI gm ?_
              refine wg_nm (by rfl) ?_
              dsimp only [List.set]
              exact ⟨x2, some (.int (xs.getD i 0)), by rw [et]; rfl⟩
            · rintro ς ⟨x2, x4, rfl⟩
              rw [List.length_map, List.take_length]
              repeat (walk_at "s1")
              exact ⟨done, rfl⟩
        | int i =>
          have hx' : gRootB A (.int p) e = .exc A.BadNumbers ["index"] [.int i] := by simp [gRootB, h1, h2]
          repeat (walk_at "s1")
          exact ⟨rfl, bad hx'⟩
        | _ =>
          exfalso
          cases e <;> first
            | (cases h2; done)
            | (rename_i l
               have h2 := h2
               unfold oddD oddO at h2
               dsimp only at h2
               split at h2 <;> cases h2)
      · exact .exc (bad (by simp [gRootB, h1]))
  · obtain ⟨h1, lx⟩ := hp
    obtain ⟨p1, p2⟩ := prm_le h1
    repeat (walk_at "s1")
    refine co_if rfl gPrime_int (fun h1 => .ret ?_) (fun h => absurd h1 (by rw [h]; exact Bool.false_ne_true))
    refine ws_seq (ws_asg ?_)
    refine we_callR1 (wl_cons (we_var rfl (wl_nil ⟨o, xs, rfl, .inl r, by omega, ?_⟩)))
    repeat (walk_at "s1")
    refine mk_ok rfl (gPoly_ok (xs := [1]) h1 (by decide)) ?_
    refine wg_nm (by rfl) ?_
    refine ws_seq (ws_for ?_)
    refine wi_seqR (we_var rfl ⟨o, xs, rfl, r, ?_⟩)
    dsimp only [List.set]
    refine ⟨fun i ς => ∃ x2 x4, ς = { δ := [some (.int p), some (.ref o), x2, some (poly A p (rootedP p (xs.take i))), x4], b := 0 }, ⟨_, none, rfl⟩, ?_, ?_⟩
    · rintro i d ς hi ⟨x2, x4, rfl⟩
      obtain ⟨rfl, hx', il⟩ := get_iL hi
      have lt : (xs.take i).length ≤ 30 := by rw [List.length_take]; omega
      have l1 := rooted_len h1 (xs.take i)
      have l2 := bare_len p [-(xs.getD i 0), 1]
      have l2 : (bare p [-(xs.getD i 0), 1]).length ≤ 2 := l2
      have gm := gMul_eq (A := A) (p := p) (p' := p) (r := rootedP p (xs.take i)) (r' := bare p [-(xs.getD i 0), 1]) h1 (rooted_small h1 _) (by omega) (by omega)
      rw [if_pos rfl] at gm
      have et := rooted_take (p := p) hx'
      refine wg_nm (by rfl) ?_
      refine ws_asg (we_op (we_var rfl ?_))
      repeat (walk_at "s1")
      refine mk_ok rfl (gPoly_ok (xs := [-(xs.getD i 0), 1]) h1 (show 2 ≤ 1000 by decide)) ?_
      refine rd_binI gm ?_
      refine wg_nm (by rfl) ?_
      dsimp only [List.set]
      exact ⟨x2, some (.int (xs.getD i 0)), by rw [et]; rfl⟩
    · rintro ς ⟨x2, x4, rfl⟩
      rw [List.length_map, List.take_length]
      repeat (walk_at "s1")
      exact rfl
end
end K10

set_option Elab.async false
set_option linter.all false
set_option maxRecDepth 100000
set_option maxHeartbeats 4000000
namespace K10
open PySem PySem.Spec PyProof.Rows L2 DL
section
variable {P : Program} {w : World} {K : PySem.W.Frag} {mg : Str → Option Value} {base : Heap} {A : Ad}
local macro_rules | `(tactic| walk_at "s0") => `(tactic| with_reducible first
  | refine ws_seq ?_ | refine ws_next ?_ | refine ws_ret ?_ | refine ws_retN ?_ | refine ws_if ?_ | refine ws_asg ?_ | refine ws_drop ?_ | refine ws_par ?_ | refine ws_break ?_ | refine ws_cont ?_
  | refine we_var rfl ?_ | refine we_int ?_ | refine we_non ?_ | refine we_bl ?_ | refine we_str ?_ | refine we_ty ?_ | refine we_dnew ?_ | refine we_op ?_ | refine we_un ?_
  | refine we_and ?_ | refine we_or ?_ | refine we_not ?_ | refine we_if ?_ | refine we_chain ?_ | refine we_cb ?_ | refine we_tup ?_ | refine we_lst ?_
  | refine wl_cons ?_ | refine wl_nil ?_ | refine wt_B ?_ | refine wt_test ?_ | refine wt_and ?_ | refine wt_or ?_ | refine wt_not ?_ | refine wt_yes ?_
  | refine wi_tup ?_ | refine wi_list ?_ | refine wg_tup rfl ?_ | refine wgs_cons ?_ | refine wgs_nil ?_
  | refine rd_add_int ?_ | refine rd_sub ?_ | refine rd_lt ?_ | refine rd_le ?_ | refine rd_gt ?_ | refine rd_ge ?_ | refine rd_eq_int ?_ | refine rd_ne_int ?_ | refine rd_eq_str ?_ | refine rd_ne_str ?_ | refine rd_eq_bl ?_ | refine rd_ne_bl ?_ | refine rd_is ?_ | refine rd_is_bl ?_ | refine rd_isnot ?_ | refine ru_neg ?_
  | refine rc_int ?_ | refine rc_abs ?_ | refine rc_anyF ?_ | refine rc_allF ?_
  | refine brT ?_ | refine brF ?_ | refine brT' ?_ | refine brF' ?_
  | refine ⟨_, rfl, ?_⟩)
set_option hygiene false in
local macro_rules | `(tactic| walk_at "s1") => `(tactic| first
  | refine we_isiLT ?_ | refine we_isiILT ?_ | refine wi_seqV (by rfl) (by rfl) ?_ | walk_at "s0" | refine ⟨true, by rfl, ?_⟩ | refine ⟨false, by rfl, ?_⟩ | refine we_ref ?_ | refine we_fld1 ?_ | refine ⟨_, _, _, _, rfl, T.n_Poly_prime, by rfl, ?_⟩ | refine ⟨_, _, _, _, rfl, T.n_Poly_row, by rfl, ?_⟩ | refine rc_isiB (r := true) (by rfl) ?_ | refine rc_isiO T.k_Poly ?_ | refine rc_isiN T.k_Poly (by rfl) ?_ | refine we_callF (by assumption) ?_ | refine we_callF (X := fun _ _ _ _ => False) xok0 ?_ | refine we_callFl (by assumption) ?_ | refine we_callFl (X := fun _ _ _ _ => False) xok0 ?_ | refine we_makeFl (by assumption) ?_ | refine we_makeFl (X := fun _ _ _ _ => False) xok0 ?_ | refine we_makeF (by assumption) ?_ | refine we_makeF (X := fun _ _ _ _ => False) xok0 ?_ | refine DX.ws_rs (by assumption) ?_ | refine wt_test ?_ | refine co_ret rfl (by rfl) ?_ | refine wg_nm (by rfl) ?_ | refine parB (by rfl) (by rfl) ?_ | refine szB (by rfl) ?_ | refine szL (by rfl) ?_ | refine brT2 (by rfl) ?_ | refine brF2 (by rfl) ?_ | refine brT3 (by rfl) ?_ | refine brF3 (by rfl) ?_ | refine rc_isiB (r := false) (by rfl) ?_)
/-! lowest terms -/
theorem gIsInt_eq {d : D} (h : (tyN d).isSome = true) : gIsInt [d] = some (.ret (.bl (isIntD d))) := if_pos h
theorem gIsList_eq {d : D} (h : (tyN d).isSome = true) : gIsList [d] = some (.ret (.bl (isLst d))) := if_pos h
theorem cut_take {l : List D} {k : Nat} : DL.cutD l none (some (k : Int)) = l.take k := by
  have e1 : HT.sIx l.length l.length (some (k : Int)) = min k l.length := HT.sIx_nat _ _ _
  unfold DL.cutD
  rw [e1]
  show (l.drop 0).take (min k l.length - 0) = _
  rw [List.drop_zero, Nat.sub_zero, ← List.take_eq_take_min]
theorem cut_mid {l : List D} {j k : Nat} : DL.cutD l (some (j : Int)) (some (k : Int)) = (l.drop j).take (k - j) := by
  have e1 : HT.sIx l.length l.length (some (k : Int)) = min k l.length := HT.sIx_nat _ _ _
  have e2 : HT.sIx l.length 0 (some (j : Int)) = min j l.length := HT.sIx_nat _ _ _
  unfold DL.cutD
  rw [e1, e2]
  refine List.ext_getElem? fun i => ?_
  rw [List.getElem?_take, List.getElem?_take, List.getElem?_drop, List.getElem?_drop]
  by_cases hj : j ≤ l.length
  · rw [Nat.min_eq_left hj]
    by_cases h : i < k - j
    · rw [if_pos h]
      by_cases h2 : i < min k l.length - j
      · rw [if_pos h2]
      · rw [if_neg h2, List.getElem?_eq_none (by omega)]
    · rw [if_neg h, if_neg (by omega)]
  · rw [if_neg (by omega)]
    split
    · rw [List.getElem?_eq_none (by omega)]
    · rfl
def gcdI (t b : Int) : Int := ((Nat.gcd t.natAbs b.natAbs : Nat) : Int)
def lowI (t b : Int) : Int × Int := (t / gcdI t b, b / gcdI t b)
def gLow : List D → Option Out
  | [.int t, .int b] => if 0 ≤ t ∧ 0 < b ∧ b < 1000000000 then some (.ret (pD (lowI t b))) else none
  | _ => none
theorem gLow_eq {t b : Int} (h1 : 0 ≤ t) (h2 : 0 < b) (h3 : b < 1000000000) : gLow [.int t, .int b] = some (.ret (pD (lowI t b))) := if_pos ⟨h1, h2, h3⟩
theorem gLow_inv {ds : List D} {o : Out} (h : gLow ds = some o) : ∃ t b : Int, ds = [.int t, .int b] ∧ (0 ≤ t ∧ 0 < b ∧ b < 1000000000) ∧ o = .ret (pD (lowI t b)) := by
  unfold gLow at h
  split at h
  · rename_i t b
    by_cases e : 0 ≤ t ∧ 0 < b ∧ b < 1000000000
    · rw [if_pos e] at h
      cases h
      exact ⟨t, b, rfl, e, rfl⟩
    · rw [if_neg e] at h
      cases h
  · cases h
theorem gcdI_bd {t b : Int} (h2 : 0 < b) (h3 : b < 1000000000) : 0 < gcdI t b ∧ gcdI t b < 1000000000 := by
  have h0 : 0 < b.natAbs := by omega
  have p : 0 < Nat.gcd t.natAbs b.natAbs := Nat.gcd_pos_of_pos_right _ h0
  have l := Nat.gcd_le_right t.natAbs h0
  unfold gcdI
  omega
theorem low_div {j : Int} (h1 : 0 < j) (h2 : j < 1000000000) {i : Int} : CDivW i j := L2.wide_div (b := 30) h1 (by omega) (by decide) (by decide)
theorem w_low {c : Cn} {t b : Int} {bb : Nat} {Ψ : Psi} (h1 : 0 ≤ t) (h2 : 0 < b) (h3 : b < 1000000000) (q : ∀ δ, Ψ.rt (pD (lowI t b)) { δ := δ, b := bb }) : WS c (tSeq (tWhile (tTest (tOp rGtK (tVar 3) (tC (.int 0)))) (tPar 2 3 (tCons (tVar 3) (tCons (tOp rModK (tVar 2) (tVar 3)) tNil))))
    (tRet (tTup (tCons (tOp rDivK (tVar 0) (tVar 2)) (tCons (tOp rDivK (tVar 1) (tVar 2)) tNil))))) { δ := [some (.int t), some (.int b), some (.int t), some (.int b)], b := bb } Ψ := by
  refine ws_seq (ws_while (fun m ς => ∃ x y : Nat, y = m ∧ ς = { δ := [some (.int t), some (.int b), some (.int (x : Int)), some (.int (y : Int))], b := bb } ∧ Nat.gcd x y = Nat.gcd t.natAbs b.natAbs) b.natAbs ?_ ?_)
  · refine ⟨t.natAbs, b.natAbs, rfl, ?_, rfl⟩
    rw [Int.natAbs_of_nonneg h1, Int.natAbs_of_nonneg (by omega)]
  · rintro m ς ⟨x, y, rfl, rfl, hg⟩
    refine wt_test (we_op (we_var rfl (we_int (rd_gt ⟨_, rfl, fun hz => ?_, fun hz => ?_⟩))))
    · have hz := of_decide_eq_true hz
      refine ws_par (wl_cons (we_var rfl (wl_cons (we_op (we_var rfl (we_var rfl (rd_mod hz (wl_nil (parB (by rfl) (by rfl) ?_)))))))))
      dsimp only [List.set]
      refine ⟨x % y, Nat.mod_lt _ (by omega), y, x % y, rfl, rfl, ?_⟩
      rw [← hg, Nat.gcd_comm x y, Nat.gcd_rec y x, Nat.gcd_comm]
    · have hz := of_decide_eq_false hz
      have y0 : y = 0 := by omega
      subst y0
      rw [Nat.gcd_zero_right] at hg
      subst hg
      obtain ⟨g1, g2⟩ := gcdI_bd (t := t) h2 h3
      refine ws_ret (we_tup (wl_cons (we_op (we_var rfl (we_var rfl (rd_div (low_div g1 g2) ?_))))))
      refine wl_cons (we_op (we_var rfl (we_var rfl (rd_div (low_div g1 g2) ?_))))
      exact wl_nil (szB rfl (q _))
theorem ok_lowest (T : Tx P K mg A) : CalX P w K mg base 1 "lowest" (SpS K 2 (spcF gLow)) := by
  obtain ⟨a, fd, F, m, bi⟩ := T.f_lowest
  refine ⟨a, fd, _, fnS F sc_lowest rfl (fun cdv A' outer sh H E hr => ⟨_, (pss_cons (ps_par (by rfl) sc_lowest.nd (i := 2) (j := 3) rfl rfl (by decide) rfl rfl (pa_cons (pe_callB call_absK (by rfl) T.z_abs (by decide +kernel) (pa_cons (pv 0) pa_nil)) (pa_cons (pe_callB call_absK (by rfl) T.z_abs (by decide +kernel) (pa_cons (pv 1) pa_nil)) pa_nil)) (by rfl))
  (pss_cons (ps_while (passes_of rfl) (pt_cmpR op_gtK (pv 3) pe_int (nomark _))
  (pss_one (ps_par (by rfl) sc_lowest.nd (i := 2) (j := 3) rfl rfl (by decide) rfl rfl (pa_cons (pv 3) (pa_cons (pe_op op_modK (pv 2) (pv 3)) pa_nil)) (by rfl))))
  (pss_one (ps_ret (pe_tup (pa_cons (pe_op op_divK (pv 0) (pv 2)) (pa_cons (pe_op op_divK (pv 1) (pv 2)) pa_nil))))))), fun R k0 ds b hp hl hE => ?_⟩), m, F.kp, bi⟩
  obtain ⟨o, ho⟩ := hp
  obtain ⟨t, u, rfl, ⟨h0, h1, h2⟩, rfl⟩ := gLow_inv ho
  refine ws_seq (ws_par (wl_cons (we_cb (wl_cons (we_var rfl (wl_nil (rc_abs (wl_cons (we_cb (wl_cons (we_var rfl (wl_nil (rc_abs (wl_nil (parB (by rfl) (by rfl) ?_)))))))))))))))
  rw [if_neg (by omega), if_neg (by omega)]
  dsimp only [startD, List.map, List.append, List.replicate, List.set]
  exact w_low h0 h1 h2 fun _ => ⟨ho, rfl⟩
theorem ok_w_lowest (T : Tx P K mg A) : CalX P w K mg base 1 "_law_w_lowest" (SpS K 2 (spcF gLow)) := by
  obtain ⟨a, fd, F, m, bi⟩ := T.f__law_w_lowest
  refine ⟨a, fd, _, fnS F sc__law_w_lowest rfl (fun cdv A' outer sh H E hr => ⟨_, (pss_cons (ps_par (by rfl) sc__law_w_lowest.nd (i := 2) (j := 3) rfl rfl (by decide) rfl rfl (pa_cons (pe_callB call_absK (by rfl) T.z_abs (by decide +kernel) (pa_cons (pv 0) pa_nil)) (pa_cons (pv 1) pa_nil)) (by rfl))
  (pss_cons (ps_while (passes_of rfl) (pt_cmpR op_gtK (pv 3) pe_int (nomark _))
  (pss_one (ps_par (by rfl) sc__law_w_lowest.nd (i := 2) (j := 3) rfl rfl (by decide) rfl rfl (pa_cons (pv 3) (pa_cons (pe_op op_modK (pv 2) (pv 3)) pa_nil)) (by rfl))))
  (pss_one (ps_ret (pe_tup (pa_cons (pe_op op_divK (pv 0) (pv 2)) (pa_cons (pe_op op_divK (pv 1) (pv 2)) pa_nil))))))), fun R k0 ds b hp hl hE => ?_⟩), m, F.kp, bi⟩
  obtain ⟨o, ho⟩ := hp
  obtain ⟨t, u, rfl, ⟨h0, h1, h2⟩, rfl⟩ := gLow_inv ho
  refine ws_seq (ws_par (wl_cons (we_cb (wl_cons (we_var rfl (wl_nil (rc_abs (wl_cons (we_var rfl (wl_nil (parB (by rfl) (by rfl) ?_)))))))))))
  rw [if_neg (by omega)]
  dsimp only [startD, List.map, List.append, List.replicate, List.set]
  exact w_low h0 h1 h2 fun _ => ⟨ho, rfl⟩
/-! coins -/
def isPt : D → Option (Int × Int)
  | .tup [.int a, .int b] => some (a, b)
  | .lst [.int a, .int b] => some (a, b)
  | _ => none
def cn2 : List D → Bool
  | [.int _, .int y] => decide (1 ≤ y)
  | _ => false
def isCn (d : D) : Option (Int × Int) := (isPt d).bind fun q => if 1 ≤ q.2 then some q else none
theorem isCn_seq {l : List D} {d : D} (h : seqOf d = some l) : (isCn d).isSome = cn2 l := by
  have key : ∀ a b : Int, (Option.bind (some (a, b)) fun q : Int × Int => if 1 ≤ q.2 then some q else none).isSome = decide (1 ≤ b) := fun a b => by
    show (if 1 ≤ b then some (a, b) else none).isSome = _
    by_cases h : 1 ≤ b
    · rw [if_pos h, decide_eq_true h]; rfl
    · rw [if_neg h, decide_eq_false h]; rfl
  cases d <;> cases h
  all_goals
    match l with
    | [] => rfl
    | [x] => cases x <;> rfl
    | [x, y] =>
      cases x <;> cases y <;> first | rfl | exact key _ _
    | x :: y :: z :: l => cases x <;> cases y <;> rfl
theorem cn_seq {d : D} {a b : Int} (h : isCn d = some (a, b)) : seqOf d = some [.int a, .int b] ∧ 1 ≤ b := by
  unfold isCn at h
  obtain ⟨⟨a1, b1⟩, h1, h2⟩ := Option.bind_eq_some_iff.mp h
  have h2 : (if 1 ≤ b1 then some (a1, b1) else none) = some (a, b) := h2
  by_cases hb : 1 ≤ b1
  · rw [if_pos hb] at h2
    injection h2 with h2
    injection h2 with h3 h4
    subst h3 h4
    refine ⟨?_, hb⟩
    unfold isPt at h1
    split at h1
    · cases h1; rfl
    · cases h1; rfl
    · cases h1
  · rw [if_neg hb] at h2
    cases h2
def gIsCn : List D → Option Out
  | [d] => if okO d = true then some (.ret (.bl (isCn d).isSome)) else none
  | _ => none
theorem ok_is_coin (T : Tx P K mg A) : CalX P w K mg base 2 "is_coin" (SpS K 1 (spcF gIsCn)) := by
  have c_is_list := @ok_is_list P w K mg base A T
  have c_is_integer := @ok_is_integer P w K mg base A T
  obtain ⟨a, fd, F, m, bi⟩ := T.f_is_coin
  refine ⟨a, fd, _, fnS F sc_is_coin rfl (fun cdv A' outer sh H E hr => ⟨_, (pss_one (ps_ret (pe_and (pe_cx c_is_list hr (by omega) (by rfl) (passes_call (takes_of rfl rfl rfl rfl) (fun _ _ _ _ z => z)) (pa_cons (pv 0) pa_nil)) (pe_and (pe_cmpR (DK.op_eq (K := K) (hr.units)) (pe_callB (DK.len (K := K)) (by rfl) T.z_len (by decide +kernel) (pa_cons (pv 0) pa_nil)) pe_int (nomark _)) (pe_and (pe_cx c_is_integer hr (by omega) (by rfl) (passes_call (takes_of rfl rfl rfl rfl) (fun _ _ _ _ z => z)) (pa_cons (pe_ix (DK.ix (K := K)) (pv 0) pe_int (fun _ _ => rfl)) pa_nil)) (pe_and (pe_cx c_is_integer hr (by omega) (by rfl) (passes_call (takes_of rfl rfl rfl rfl) (fun _ _ _ _ z => z)) (pa_cons (pe_ix (DK.ix (K := K)) (pv 0) pe_int (fun _ _ => rfl)) pa_nil)) (pe_one (pe_cmpR op_geK (pe_ix (DK.ix (K := K)) (pv 0) pe_int (fun _ _ => rfl)) pe_int (nomark _))))))))), fun R k0 ds b hp hl hE => ?_⟩), m, F.kp, bi⟩
  obtain ⟨o, ho⟩ := hp
  obtain ⟨d, rfl⟩ : ∃ d, ds = [d] := by
    match ds, hl with
    | [d], _ => exact ⟨d, rfl⟩
  have ek : okO d = true := by
    by_cases h : okO d = true
    · exact h
    · have e : gIsCn [d] = none := if_neg h
      rw [e] at ho
      cases ho
  have eg : gIsCn [d] = some (.ret (.bl (isCn d).isSome)) := if_pos ek
  have int_at : ∀ {d : D}, (tyN d).isSome = true → gIsInt [d] = some (.ret (.bl (isIntD d))) := fun h => if_pos h
  have two : ∀ l : List D, typed l = true → (∃ x y, l = [x, y] ∧ (tyN x).isSome = true ∧ (tyN y).isSome = true) ∨ (l.length ≠ 2 ∧ cn2 l = false) := fun l t => by
    match l with
    | [] => exact .inr ⟨by decide, rfl⟩
    | [x] => exact .inr ⟨by simp, by cases x <;> rfl⟩
    | [x, y] => exact .inl ⟨x, y, rfl, List.all_eq_true.mp t x (by simp), List.all_eq_true.mp t y (by simp)⟩
    | x :: y :: z :: l => exact .inr ⟨by simp, by cases x <;> cases y <;> rfl⟩
  cases d
  case lst l =>
    obtain ⟨l1, l2⟩ := Bool.and_eq_true_iff.mp ek
    rw [isCn_seq rfl] at eg
    repeat (walk_at "s1")
    refine rc_len (l := l) rfl ?_
    repeat (walk_at "s1")
    rcases two l l2 with ⟨x, y, rfl, tx, ty⟩ | ⟨n2, e⟩
    · refine ⟨fun _ => ?_, fun z => absurd (of_decide_eq_false z) (fun n => n rfl)⟩
      refine we_and (we_callF (X := fun _ _ _ _ => False) xok0 (wl_cons (we_op (we_var rfl (we_int (rd_ix rfl (d := x) atI_0 (wl_nil (co_ret rfl (int_at tx) ?_))))))))
      repeat (walk_at "s1")
      cases hx : isIntD x with
      | false =>
        have e : cn2 [x, y] = false := by cases x <;> first | rfl | cases hx
        rw [e] at eg
        exact ⟨fun z => (nomatch z), fun _ => ⟨eg, rfl⟩⟩
      | true =>
        obtain ⟨i, rfl⟩ : ∃ i, x = .int i := by cases x <;> first | exact ⟨_, rfl⟩ | cases hx
        refine ⟨fun _ => ?_, fun z => (nomatch z)⟩
        refine we_and (we_callF (X := fun _ _ _ _ => False) xok0 (wl_cons (we_op (we_var rfl (we_int (rd_ix rfl (d := y) atI_1 (wl_nil (co_ret rfl (int_at ty) ?_))))))))
        cases hy : isIntD y with
        | false =>
          have e : cn2 [.int i, y] = false := by cases y <;> first | rfl | cases hy
          rw [e] at eg
          exact ⟨false, rfl, fun z => (nomatch z), fun _ => ⟨eg, rfl⟩⟩
        | true =>
          obtain ⟨j, rfl⟩ : ∃ j, y = .int j := by cases y <;> first | exact ⟨_, rfl⟩ | cases hy
          refine ⟨true, rfl, fun _ => ?_, fun z => (nomatch z)⟩
          exact we_op (we_op (we_var rfl (we_int (rd_ix rfl (d := .int j) atI_1 (we_int (rd_ge ⟨eg, rfl⟩))))))
    · rw [e] at eg
      exact ⟨fun z => absurd (of_decide_eq_true z) (by omega), fun _ => ⟨eg, rfl⟩⟩
  case tup l =>
    obtain ⟨l1, l2⟩ := Bool.and_eq_true_iff.mp ek
    rw [isCn_seq rfl] at eg
    repeat (walk_at "s1")
    refine rc_len (l := l) rfl ?_
    repeat (walk_at "s1")
    rcases two l l2 with ⟨x, y, rfl, tx, ty⟩ | ⟨n2, e⟩
    · refine ⟨fun _ => ?_, fun z => absurd (of_decide_eq_false z) (fun n => n rfl)⟩
      refine we_and (we_callF (X := fun _ _ _ _ => False) xok0 (wl_cons (we_op (we_var rfl (we_int (rd_ix rfl (d := x) atI_0 (wl_nil (co_ret rfl (int_at tx) ?_))))))))
      repeat (walk_at "s1")
      cases hx : isIntD x with
      | false =>
        have e : cn2 [x, y] = false := by cases x <;> first | rfl | cases hx
        rw [e] at eg
        exact ⟨fun z => (nomatch z), fun _ => ⟨eg, rfl⟩⟩
      | true =>
        obtain ⟨i, rfl⟩ : ∃ i, x = .int i := by cases x <;> first | exact ⟨_, rfl⟩ | cases hx
        refine ⟨fun _ => ?_, fun z => (nomatch z)⟩
        refine we_and (we_callF (X := fun _ _ _ _ => False) xok0 (wl_cons (we_op (we_var rfl (we_int (rd_ix rfl (d := y) atI_1 (wl_nil (co_ret rfl (int_at ty) ?_))))))))
        cases hy : isIntD y with
        | false =>
          have e : cn2 [.int i, y] = false := by cases y <;> first | rfl | cases hy
          rw [e] at eg
          exact ⟨false, rfl, fun z => (nomatch z), fun _ => ⟨eg, rfl⟩⟩
        | true =>
          obtain ⟨j, rfl⟩ : ∃ j, y = .int j := by cases y <;> first | exact ⟨_, rfl⟩ | cases hy
          refine ⟨true, rfl, fun _ => ?_, fun z => (nomatch z)⟩
          exact we_op (we_op (we_var rfl (we_int (rd_ix rfl (d := .int j) atI_1 (we_int (rd_ge ⟨eg, rfl⟩))))))
    · rw [e] at eg
      exact ⟨fun z => absurd (of_decide_eq_true z) (by omega), fun _ => ⟨eg, rfl⟩⟩
  all_goals first
    | exact absurd ek Bool.false_ne_true
    | (repeat (walk_at "s1")
       exact ⟨eg, rfl⟩)
/-- the first thing that is no coin, or whose number stood before -/
def badC (p : Int) : List Int → List D → Nat → Option Nat
  | _, [], _ => none
  | s, d :: l, i => match isCn d with
    | some q => if q.1 % p ∈ s then some i else badC p (s ++ [q.1 % p]) l (i + 1)
    | none => some i
def badCD (p : Int) (L : D) : D := if (isLst L && !(itemsD L).isEmpty) = true then oddO (badC p [] (itemsD L) 0) else .int 0
def okC (L : D) : Bool := (tyN L).isSome && ((itemsD L).all okO && decide ((itemsD L).length ≤ 1000))
def gBadC : List D → Option Out
  | [.int p, L] => if (isPrm p && okC L) = true then some (.ret (badCD p L)) else none
  | _ => none
theorem badC_step {p : Int} {s : List Int} {l : List D} {i : Nat} {y : D} (h : l[i]? = some y) : badC p s (l.drop i) i = match isCn y with
    | some q => if q.1 % p ∈ s then some i else badC p (s ++ [q.1 % p]) (l.drop (i + 1)) (i + 1)
    | none => some i := by
  have hl : i < l.length := (List.getElem?_eq_some_iff.mp h).1
  rw [List.drop_eq_getElem_cons hl]
  have e : l[i] = y := Option.some.inj (by rw [← List.getElem?_eq_getElem hl]; exact h)
  rw [e]
  rfl
theorem any_iL {l : List Int} {x : Int} : ((l.map D.int).any fun y => eqF y (.int x)) = decide (x ∈ l) := by
  induction l with
  | nil => rfl
  | cons y l ih =>
    rw [List.map_cons, List.any_cons, ih]
    have e : eqF (.int y) (.int x) = decide (y = x) := by
      show PyData.eqv (.int y) (.int x) = _
      simp [PyData.eqv]
      rfl
    rw [e]
    by_cases h : y = x
    · subst h
      simp
    · by_cases h2 : x ∈ l
      · simp [h2]
      · simp [h, h2, Ne.symm h]
theorem flat_iL (l : List Int) : (l.map D.int).all flatD = true := List.all_eq_true.mpr fun d hd => by
  obtain ⟨x, _, rfl⟩ := List.mem_map.mp hd
  rfl
theorem ok_first_bad (T : Tx P K mg A) : CalX P w K mg base 3 "first_bad_coin" (SpS K 2 (spcF gBadC)) := by
  have c_is_list := @ok_is_list P w K mg base A T
  have c_is_coin := @ok_is_coin P w K mg base A T
  obtain ⟨a, fd, F, m, bi⟩ := T.f_first_bad_coin
  refine ⟨a, fd, _, fnS F sc_first_bad_coin rfl (fun cdv A' outer sh H E hr => ⟨_, (pss_cons (ps_if (PW.pt (pw_or (pt_not (pt_val (pe_cx c_is_list hr (by omega) (by rfl) (passes_call (takes_of rfl rfl rfl rfl) (fun _ _ _ _ z => z)) (pa_cons (pv 1) pa_nil)))) (pw_or1 (pt_cmpR (DK.op_eq (K := K) (hr.units)) (pe_callB (DK.len (K := K)) (by rfl) T.z_len (by decide +kernel) (pa_cons (pv 1) pa_nil)) pe_int (nomark _)))))
  (pss_one (ps_ret pe_int))
  pss_nil)
  (pss_cons (ps_asg (pe_lst pa_nil) (pg_name (i := 2) sc_first_bad_coin.nd rfl (by first | exact .inl rfl | exact .inr rfl)))
  (pss_cons (ps_for (passes_of rfl) rfl (DK.pi_enum2 (K := K) (by rfl) T.z_enumerate (pa_cons (pv 1) pa_nil)) (DK.pg_tup (K := K) rfl (pgs_cons (pg_name (i := 3) sc_first_bad_coin.nd rfl (by first | exact .inl rfl | exact .inr rfl)) (pgs_cons (pg_name (i := 4) sc_first_bad_coin.nd rfl (by first | exact .inl rfl | exact .inr rfl)) pgs_nil)))
  (pss_cons (ps_if (PW.pt (pw_or (pt_not (pt_val (pe_cx c_is_coin hr (by omega) (by rfl) (passes_call (takes_of rfl rfl rfl rfl) (fun _ _ _ _ z => z)) (pa_cons (pv 4) pa_nil)))) (pw_or1 (pt_cmpR (DK.op_in (K := K)) (pe_op op_modK (pe_ix (DK.ix (K := K)) (pv 4) pe_int (fun _ _ => rfl)) (pv 0)) (pv 2) (by rfl)))))
  (pss_one (ps_ret (pv 3)))
  pss_nil)
  (pss_one (ps_expr (pe_bm PySem.F.plainAttrs_list PySem.F.slot_list_append PySem.F.type_list_append mt_append (pv 2) (pa_cons (pe_op op_modK (pe_ix (DK.ix (K := K)) (pv 4) pe_int (fun _ _ => rfl)) (pv 0)) pa_nil))))))
  (pss_one (ps_ret pe_non))))), fun R k0 ds b hp hl hE => ?_⟩), m, F.kp, bi⟩
  obtain ⟨o, ho⟩ := hp
  obtain ⟨p, L, rfl⟩ : ∃ p L, ds = [.int p, L] := by
    unfold gBadC at ho
    split at ho
    · exact ⟨_, _, rfl⟩
    · cases ho
  have kk : (isPrm p && okC L) = true := by
    by_cases h : (isPrm p && okC L) = true
    · exact h
    · have e : gBadC [.int p, L] = none := if_neg h
      rw [e] at ho
      cases ho
  have eg : gBadC [.int p, L] = some (.ret (badCD p L)) := if_pos kk
  obtain ⟨h1, kL⟩ := Bool.and_eq_true_iff.mp kk
  obtain ⟨p1, p2⟩ := prm_le h1
  obtain ⟨kt, kL⟩ := Bool.and_eq_true_iff.mp kL
  obtain ⟨ki, kl⟩ := Bool.and_eq_true_iff.mp kL
  have kl := of_decide_eq_true kl
  unfold badCD at eg
  refine ws_seq (ws_if (wt_or (wt_not (wt_B ?_))))
  refine we_callFl (X := fun _ _ _ _ => False) xok0 (wl_cons (we_var rfl (wl_nil (co_ret rfl (gIsList_eq kt) ?_))))
  cases hL : isLst L with
  | false =>
    rw [hL] at eg
    repeat (walk_at "s1")
    exact ⟨eg, rfl⟩
  | true =>
    rw [hL] at eg
    obtain ⟨l, sq, el⟩ : ∃ l, seqOf L = some l ∧ itemsD L = l := by cases L <;> first | exact ⟨_, rfl, rfl⟩ | cases hL
    rw [el] at eg ki kl
    refine ⟨true, rfl, ?_⟩
    refine brF3 rfl ?_
    refine wt_test (we_op (we_cb (wl_cons (we_var rfl (wl_nil (rc_len sq ?_))))))
    refine we_int (rd_eq_int ?_)
    refine ⟨_, rfl, fun hz => ?_, fun hz => ?_⟩
    · have hz : l = [] := List.length_eq_zero_iff.mp (by have := of_decide_eq_true hz; omega)
      subst hz
      refine ws_ret (we_int ⟨eg, rfl⟩)
    have hz := of_decide_eq_false hz
    have hne : (true && !l.isEmpty) = true := by
      cases l with
      | nil => exact absurd rfl hz
      | cons x l => rfl
    rw [if_pos hne] at eg
    refine ws_next ?_
    refine ws_seq (ws_asg (we_lstM (wl_nil (szB rfl fun q nq => ?_))))
    refine wg_nm (by rfl) ?_
    dsimp only [List.set]
    have items : ∀ {i : Nat} {y : D}, l[i]? = some y → okO y = true := fun h => List.all_eq_true.mp ki _ (List.mem_of_getElem? h)
    have hel : L = .lst l ∨ L = .tup l := by
      cases L <;> first | (cases hL; done) | (exact .inl (by rw [← el]; rfl)) | (exact .inr (by rw [← el]; rfl))
    rcases hel with rfl | rfl
    all_goals
      refine ws_seq (ws_for ?_)
      first | (refine wi_enumL (wl_cons (we_var rfl (wl_nil ⟨l, rfl, ?_⟩)))) | (refine wi_enumT (wl_cons (we_var rfl (wl_nil ⟨l, rfl, ?_⟩))))
      refine ⟨fun i ς => ∃ x3 x4 s, ς = { δ := [some (.int p), some _, some (.ref q), x3, x4], m := [(q, .lst (s.map D.int))], b := b } ∧ s.length ≤ i ∧ badC p s (l.drop i) i = badC p [] l 0, ⟨none, none, [], rfl, Nat.le_refl 0, rfl⟩, ?_, ?_⟩
      · rintro i d ς hi ⟨x3, x4, s, rfl, sl, eo⟩
        obtain ⟨y, hy, rfl⟩ := enumD_get hi
        have il := (List.getElem?_eq_some_iff.mp hy).1
        have oy := items hy
        rw [badC_step hy] at eo
        refine wg_tup rfl ?_
        repeat (walk_at "s1")
        refine co_ret rfl (show gIsCn [y] = some (.ret (.bl (isCn y).isSome)) from if_pos oy) ?_
        cases hp : isCn y with
        | none =>
          rw [hp] at eo
          rw [← eo] at eg
          repeat (walk_at "s1")
          exact ⟨eg, rfl⟩
        | some ab =>
          obtain ⟨a, c⟩ := ab
          rw [hp] at eo
          dsimp only at eo
          obtain ⟨sq2, _⟩ := cn_seq hp
          refine ⟨true, rfl, ?_⟩
          refine brF3 rfl ?_
          refine wt_test (we_inM (j := 0) (o := q) (ds := s.map D.int) (we_op (we_op (we_var rfl (we_int (rd_ix sq2 (d := .int a) atI_0 (we_var rfl (rd_mod (by omega) (we_var rfl ⟨rfl, rfl, rfl, flat_iL _, ?_⟩)))))))))
          rw [any_iL]
          by_cases hm : a % p ∈ s
          · rw [if_pos hm] at eo
            rw [← eo] at eg
            rw [decide_eq_true hm]
            repeat (walk_at "s1")
            exact ⟨eg, rfl⟩
          · rw [if_neg hm] at eo
            rw [decide_eq_false hm]
            refine ⟨false, rfl, ?_⟩
            refine brF ?_
            refine ws_next ?_
            refine ws_append (j := 0) (o := q) (ds := s.map D.int) (fun _ _ _ z => (nomatch z)) ?_
            refine we_var rfl ⟨rfl, ⟨_, rfl⟩, we_op (we_op (we_var rfl (we_int (rd_ix sq2 (d := .int a) atI_0 (we_var rfl (rd_mod (by omega) ⟨rfl, lt_size (by rw [List.length_map]; omega), ?_⟩))))))⟩
            dsimp only [List.set]
            have em : s.map D.int ++ [D.int (a % p)] = (s ++ [a % p]).map D.int := by
              rw [List.map_append]
              rfl
            rw [em]
            exact ⟨_, _, _, rfl, by rw [List.length_append]; show s.length + 1 ≤ _; omega, eo⟩
      · rintro ς ⟨x3, x4, s, rfl, sl, eo⟩
        have ez : l.drop (enumD l).length = [] := by
          unfold enumD
          rw [List.length_mapIdx]
          exact List.drop_length
        rw [ez] at eo
        rw [← eo] at eg
        dsimp only
        refine ws_ret (we_non ?_)
        exact ⟨eg, rfl⟩
def gChkC (A : Ad) : List D → Option Out
  | [.int p, L] => if (isPrm p && okC L) = true then some (match badCD p L with | .int i => .exc A.BadCoin ["index"] [.int i] | _ => .ret .non) else none
  | _ => none
theorem badCD_cases (p : Int) (L : D) : badCD p L = .non ∨ ∃ i : Nat, badCD p L = .int (i : Int) := by
  unfold badCD
  by_cases h : (isLst L && !(itemsD L).isEmpty) = true
  · rw [if_pos h]
    cases badC p [] (itemsD L) 0 with
    | none => exact .inl rfl
    | some i => exact .inr ⟨i, rfl⟩
  · rw [if_neg h]
    exact .inr ⟨0, rfl⟩
theorem ok_check_coins (T : Tx P K mg A) : CalX P w K mg base 4 "check_coins" (SpS K 2 (spcF (gChkC A))) := by
  have c_first_bad_coin := @ok_first_bad P w K mg base A T
  obtain ⟨a, fd, F, m, bi⟩ := T.f_check_coins
  refine ⟨a, fd, _, fnS F sc_check_coins rfl (fun cdv A' outer sh H E hr => ⟨_, (pss_cons (ps_asg (pe_cx c_first_bad_coin hr (by omega) (by rfl) (passes_call (takes_of rfl rfl rfl rfl) (fun _ _ _ _ z => z)) (pa_cons (pv 0) (pa_cons (pv 1) pa_nil))) (pg_name (i := 2) sc_check_coins.nd rfl (by first | exact .inl rfl | exact .inr rfl)))
  (pss_one (ps_if (pt_cmpR op_isnotK (pv 2) pe_non (nomark _))
  (pss_one (DX.ps_rs (takes_of rfl rfl rfl rfl) T.x_BadCoin (by decide) (by decide) hr (pa_cons (pv 2) pa_nil)))
  pss_nil))), fun R k0 ds b hp hl hE => ?_⟩), m, F.kp, bi⟩
  obtain ⟨o, ho⟩ := hp
  obtain ⟨p, L, rfl⟩ : ∃ p L, ds = [.int p, L] := by
    unfold gChkC at ho
    split at ho
    · exact ⟨_, _, rfl⟩
    · cases ho
  have kk : (isPrm p && okC L) = true := by
    by_cases h : (isPrm p && okC L) = true
    · exact h
    · have e : gChkC A [.int p, L] = none := if_neg h
      rw [e] at ho
      cases ho
  have eg : gChkC A [.int p, L] = some (match badCD p L with | .int i => .exc A.BadCoin ["index"] [.int i] | _ => .ret .non) := if_pos kk
  have e1 : gBadC [.int p, L] = some (.ret (badCD p L)) := if_pos kk
  have hx := xok_def hE
  have hX := xokW hx
  refine ws_seq (ws_asg (we_callF (X := fun _ _ _ _ => False) xok0 (wl_cons (we_var rfl (wl_cons (we_var rfl (wl_nil (co_ret rfl e1 ?_))))))))
  refine wg_nm (by rfl) ?_
  dsimp only [List.set]
  rcases badCD_cases p L with e | ⟨i, e⟩
  · rw [e] at eg ⊢
    repeat (walk_at "s1")
    exact ⟨eg, rfl⟩
  · rw [e] at eg ⊢
    repeat (walk_at "s1")
    exact ⟨rfl, eg, rfl⟩
/-- coins told as pairs -/
def cnsD (cs : List (Int × Int)) : D := .lst (cs.map pD)
theorem badC_ok {p : Int} : ∀ {l : List D} {cs : List (Int × Int)} {s : List Int} {i : Nat}, l.map isCn = cs.map some → (s ++ cs.map fun c => c.1 % p).Nodup → badC p s l i = none
  | [], _, _, _, _, _ => rfl
  | d :: l, [], _, _, h, _ => by cases h
  | d :: l, c :: cs, s, i, h, nd => by
    rw [List.map_cons, List.map_cons] at h
    injection h with h1 h2
    rw [List.map_cons] at nd
    have nm : c.1 % p ∉ s := fun z => (List.nodup_append.mp nd).2.2 _ z _ List.mem_cons_self rfl
    show (match isCn d with | some q => if q.1 % p ∈ s then some i else badC p (s ++ [q.1 % p]) l (i + 1) | none => some i) = none
    rw [h1]
    dsimp only
    rw [if_neg nm]
    refine badC_ok h2 ?_
    rw [List.append_assoc]
    exact nd
theorem isCn_pD {c : Int × Int} (h : 1 ≤ c.2) : isCn (pD c) = some c := by
  show (if 1 ≤ c.2 then some (c.1, c.2) else none) = _
  rw [if_pos h]
structure CnsOk (p : Int) (cs : List (Int × Int)) : Prop where
  ne : cs ≠ []
  few : cs.length ≤ 200
  wt : ∀ c ∈ cs, 1 ≤ c.2 ∧ c.2 ≤ 1000
  nd : (cs.map fun c => c.1 % p).Nodup
theorem cns_good {p : Int} {cs : List (Int × Int)} (h : CnsOk p cs) : badCD p (cnsD cs) = .non ∧ okC (cnsD cs) = true := by
  have hm : (cs.map pD).map isCn = cs.map some := by
    rw [List.map_map]
    exact List.map_congr_left fun c hc => isCn_pD (h.wt c hc).1
  have e : (isLst (cnsD cs) && !(itemsD (cnsD cs)).isEmpty) = true := by
    have n := h.ne
    cases cs with
    | nil => exact absurd rfl n
    | cons c cs => rfl
  constructor
  · unfold badCD
    rw [if_pos e]
    show oddO (badC p [] (cs.map pD) 0) = .non
    rw [badC_ok hm (by rw [List.nil_append]; exact h.nd)]
    rfl
  · show (true && ((cs.map pD).all okO && decide ((cs.map pD).length ≤ 1000))) = true
    have hl := h.few
    rw [List.length_map, decide_eq_true (by omega), Bool.true_and, Bool.and_true]
    refine List.all_eq_true.mpr fun d hd => ?_
    obtain ⟨c, _, rfl⟩ := List.mem_map.mp hd
    rfl
end
end K10

set_option Elab.async false
set_option linter.all false
set_option maxRecDepth 100000
set_option maxHeartbeats 4000000
namespace K10
open PySem PySem.Spec PyProof.Rows L2 DL
section
variable {P : Program} {w : World} {K : PySem.W.Frag} {mg : Str → Option Value} {base : Heap} {A : Ad}
local macro_rules | `(tactic| walk_at "s0") => `(tactic| with_reducible first
  | refine ws_seq ?_ | refine ws_next ?_ | refine ws_ret ?_ | refine ws_retN ?_ | refine ws_if ?_ | refine ws_asg ?_ | refine ws_drop ?_ | refine ws_par ?_ | refine ws_break ?_ | refine ws_cont ?_
  | refine we_var rfl ?_ | refine we_int ?_ | refine we_non ?_ | refine we_bl ?_ | refine we_str ?_ | refine we_ty ?_ | refine we_dnew ?_ | refine we_op ?_ | refine we_un ?_
  | refine we_and ?_ | refine we_or ?_ | refine we_not ?_ | refine we_if ?_ | refine we_chain ?_ | refine we_cb ?_ | refine we_tup ?_ | refine we_lst ?_
  | refine wl_cons ?_ | refine wl_nil ?_ | refine wt_B ?_ | refine wt_test ?_ | refine wt_and ?_ | refine wt_or ?_ | refine wt_not ?_ | refine wt_yes ?_
  | refine wi_tup ?_ | refine wi_list ?_ | refine wg_tup rfl ?_ | refine wgs_cons ?_ | refine wgs_nil ?_
  | refine rd_add_int ?_ | refine rd_sub ?_ | refine rd_lt ?_ | refine rd_le ?_ | refine rd_gt ?_ | refine rd_ge ?_ | refine rd_eq_int ?_ | refine rd_ne_int ?_ | refine rd_eq_str ?_ | refine rd_ne_str ?_ | refine rd_eq_bl ?_ | refine rd_ne_bl ?_ | refine rd_is ?_ | refine rd_is_bl ?_ | refine rd_isnot ?_ | refine ru_neg ?_
  | refine rc_int ?_ | refine rc_abs ?_ | refine rc_anyF ?_ | refine rc_allF ?_
  | refine brT ?_ | refine brF ?_ | refine brT' ?_ | refine brF' ?_
  | refine ⟨_, rfl, ?_⟩)
set_option hygiene false in
local macro_rules | `(tactic| walk_at "s1") => `(tactic| first
  | refine we_isiLT ?_ | refine we_isiILT ?_ | refine wi_seqV (by rfl) (by rfl) ?_ | walk_at "s0" | refine ⟨true, by rfl, ?_⟩ | refine ⟨false, by rfl, ?_⟩ | refine we_ref ?_ | refine we_fld1 ?_ | refine ⟨_, _, _, _, rfl, T.n_Poly_prime, by rfl, ?_⟩ | refine ⟨_, _, _, _, rfl, T.n_Poly_row, by rfl, ?_⟩ | refine rc_isiB (r := true) (by rfl) ?_ | refine rc_isiO T.k_Poly ?_ | refine rc_isiN T.k_Poly (by rfl) ?_ | refine we_callF (by assumption) ?_ | refine we_callF (X := fun _ _ _ _ => False) xok0 ?_ | refine we_callFl (by assumption) ?_ | refine we_callFl (X := fun _ _ _ _ => False) xok0 ?_ | refine we_makeFl (by assumption) ?_ | refine we_makeFl (X := fun _ _ _ _ => False) xok0 ?_ | refine we_makeF (by assumption) ?_ | refine we_makeF (X := fun _ _ _ _ => False) xok0 ?_ | refine DX.ws_rs (by assumption) ?_ | refine wt_test ?_ | refine co_ret rfl (by rfl) ?_ | refine wg_nm (by rfl) ?_ | refine parB (by rfl) (by rfl) ?_ | refine szB (by rfl) ?_ | refine szL (by rfl) ?_ | refine brT2 (by rfl) ?_ | refine brF2 (by rfl) ?_ | refine brT3 (by rfl) ?_ | refine brF3 (by rfl) ?_ | refine rc_isiB (r := false) (by rfl) ?_)
/-! a heaviest set of coins -/
theorem ord_uniq {α : Type} {r : α → α → Prop} (anti : ∀ x y, r x y → r y x → x = y) : ∀ {l m : List α}, l.Perm m → l.Pairwise r → m.Pairwise r → l = m
  | [], m, p, _, _ => p.nil_eq
  | x :: l, [], p, _, _ => absurd p.length_eq (by simp)
  | x :: l, y :: m, p, h1, h2 => by
    obtain ⟨a1, a2⟩ := List.pairwise_cons.mp h1
    obtain ⟨b1, b2⟩ := List.pairwise_cons.mp h2
    have e : x = y := by
      apply Classical.byContradiction
      intro n
      have hx : x ∈ m := (List.mem_cons.mp (p.mem_iff.mp List.mem_cons_self)).resolve_left n
      have hy : y ∈ l := (List.mem_cons.mp (p.mem_iff.mpr List.mem_cons_self)).resolve_left fun z => n z.symm
      exact n (anti _ _ (a1 y hy) (b1 x hx))
    subst e
    rw [ord_uniq anti (List.perm_cons x |>.mp p) a2 b2]
def leP (x y : Int × Int) : Bool := !SrtO.lexB y x
/-- sorting by putting in -/
def putIn {α : Type} (le : α → α → Bool) (x : α) : List α → List α
  | [] => [x]
  | y :: l => if le x y = true then x :: y :: l else y :: putIn le x l
def sortBy {α : Type} (le : α → α → Bool) : List α → List α
  | [] => []
  | x :: l => putIn le x (sortBy le l)
theorem putIn_perm {α : Type} (le : α → α → Bool) (x : α) : ∀ l : List α, (putIn le x l).Perm (x :: l)
  | [] => .refl _
  | y :: l => by
    unfold putIn
    split
    · exact .refl _
    · exact ((putIn_perm le x l).cons y).trans (.swap _ _ _)
theorem sortBy_perm {α : Type} (le : α → α → Bool) : ∀ l : List α, (sortBy le l).Perm l
  | [] => .refl _
  | x :: l => (putIn_perm le x _).trans ((sortBy_perm le l).cons x)
theorem putIn_ord {α : Type} {le : α → α → Bool} (tr : ∀ a b c, le a b = true → le b c = true → le a c = true) (tot : ∀ a b, le a b = true ∨ le b a = true) (x : α) : ∀ {l : List α}, l.Pairwise (fun a b => le a b = true) → (putIn le x l).Pairwise fun a b => le a b = true
  | [], _ => List.pairwise_singleton _ _
  | y :: l, h => by
    obtain ⟨h1, h2⟩ := List.pairwise_cons.mp h
    unfold putIn
    split
    · rename_i q
      refine List.pairwise_cons.mpr ⟨fun z hz => ?_, h⟩
      rcases List.mem_cons.mp hz with rfl | hz
      · exact q
      · exact tr _ _ _ q (h1 z hz)
    · rename_i q
      refine List.pairwise_cons.mpr ⟨fun z hz => ?_, putIn_ord tr tot x h2⟩
      rcases List.mem_cons.mp ((putIn_perm le x l).mem_iff.mp hz) with rfl | hz
      · exact (tot _ _).resolve_left q
      · exact h1 z hz
theorem sortBy_ord {α : Type} {le : α → α → Bool} (tr : ∀ a b c, le a b = true → le b c = true → le a c = true) (tot : ∀ a b, le a b = true ∨ le b a = true) : ∀ l : List α, (sortBy le l).Pairwise fun a b => le a b = true
  | [] => List.Pairwise.nil
  | x :: l => putIn_ord tr tot x (sortBy_ord tr tot l)
def srtP (l : List (Int × Int)) : List (Int × Int) := sortBy leP l
theorem lexB_no {x y : Int × Int} : SrtO.lexB x y = false ↔ ¬ (x.1 < y.1 ∨ (x.1 = y.1 ∧ x.2 < y.2)) := by
  rw [← SrtO.lexB_iff]
  cases SrtO.lexB x y <;> simp
theorem srtP_spec (l : List (Int × Int)) : (srtP l).Perm l ∧ OrdP (srtP l) := by
  refine ⟨sortBy_perm leP l, ?_⟩
  have h := sortBy_ord (le := leP) (fun a b c h1 h2 => ?_) (fun a b => ?_) l
  · exact h.imp fun {a b} z => by
      unfold leP at z
      simpa using z
  · unfold leP at h1 h2 ⊢
    simp only [Bool.not_eq_true', lexB_no] at h1 h2 ⊢
    omega
  · unfold leP
    simp only [Bool.not_eq_true', lexB_no]
    omega
theorem srtP_uniq {l m : List (Int × Int)} (h1 : m.Perm l) (h2 : OrdP m) : m = srtP l := by
  obtain ⟨p, o⟩ := srtP_spec l
  refine ord_uniq (fun x y a b => ?_) (h1.trans p.symm) h2 o
  rw [lexB_no] at a b
  exact Prod.ext (by omega) (by omega)
def sortI (l : List Int) : List Int := sortBy (fun x y => decide (x ≤ y)) l
theorem sortI_spec (l : List Int) : (sortI l).Perm l ∧ (sortI l).Pairwise (· ≤ ·) := by
  refine ⟨sortBy_perm _ l, ?_⟩
  have h := sortBy_ord (le := fun x y : Int => decide (x ≤ y)) (fun a b c h1 h2 => ?_) (fun a b => ?_) l
  · exact h.imp fun {a b} z => of_decide_eq_true z
  · have h1 := of_decide_eq_true h1
    have h2 := of_decide_eq_true h2
    exact decide_eq_true (by omega)
  · simp only [decide_eq_true_eq]
    omega
theorem sortI_uniq {l m : List Int} (h1 : m.Perm l) (h2 : m.Pairwise (· ≤ ·)) : m = sortI l := by
  obtain ⟨p, o⟩ := sortI_spec l
  exact ord_uniq (fun x y a b => by omega) (h1.trans p.symm) h2 o
def shutB (p : Int) (zs : List Int) : Bool := decide ((worth p 0 (rootedP p zs) + worth p 1 (rootedP p zs)) % p = 0)
def rowsOf (p : Int) (cs : List (Int × Int)) : List (Int × Int) := cs.map fun c => (-c.2, c.1 % p)
def lessR (R : List (Int × Int)) : List (Int × Int) := R.filter fun r => decide (r.2 < 2)
def cutR (R : List (Int × Int)) : List (Int × Int) := if (lessR R).length = 2 then R.filter (fun r => !decide (r = (lessR R).getD 1 (0, 0))) else R
def topR (p : Int) (d : Nat) (R : List (Int × Int)) : List (Int × Int) := if (R.take d).length = d ∧ shutB p ((R.take d).map (·.2)) = true then R.take (d - 1) ++ (R.drop d).take 1 else R.take d
def bestT (p : Int) (d : Nat) (cs : List (Int × Int)) : List (Int × Int) := topR p d (cutR (srtP (rowsOf p cs)))
/-- the weight and the numbers, none where there is no such polynomial -/
def bestO (p : Int) (d : Nat) (cs : List (Int × Int)) : Option (Int × List Int) := if d = 0 then (if p = 2 then none else some (0, [])) else some (-((bestT p d cs).map (·.1)).sum, sortI ((bestT p d cs).map (·.2)))
def bestD (o : Option (Int × List Int)) : D := match o with
  | none => .non
  | some x => .tup [.int x.1, iL x.2]
def isPtD (d : D) : Option (Int × Int) := isPt d
theorem pt_seq {d : D} {c : Int × Int} (h : isPt d = some c) : seqOf d = some [.int c.1, .int c.2] := by
  unfold isPt at h
  split at h <;> cases h <;> rfl
theorem pt_cn {d : D} {c : Int × Int} (h : isPt d = some c) (h2 : 1 ≤ c.2) : isCn d = some c := by
  unfold isCn
  rw [h]
  show (if 1 ≤ c.2 then some c else none) = _
  rw [if_pos h2]
/-- the pairs that coins are, lists or tuples -/
def cnsOf (L : D) : List (Int × Int) := (itemsD L).filterMap isPt
structure CnsL (p : Int) (L : D) (cs : List (Int × Int)) : Prop where
  ok : CnsOk p cs
  lst : isLst L = true
  it : (itemsD L).map isPt = cs.map some
theorem filterMap_some {l : List D} {cs : List (Int × Int)} (h : l.map isPt = cs.map some) : l.filterMap isPt = cs := by
  induction l generalizing cs with
  | nil => cases cs with
    | nil => rfl
    | cons c cs => cases h
  | cons d l ih =>
    cases cs with
    | nil => cases h
    | cons c cs =>
      rw [List.map_cons, List.map_cons] at h
      injection h with h1 h2
      rw [List.filterMap_cons, h1, ih h2]
theorem CnsL.of {p : Int} {L : D} {cs : List (Int × Int)} (h : CnsL p L cs) : cnsOf L = cs := filterMap_some h.it
theorem CnsL.seq {p : Int} {L : D} {cs : List (Int × Int)} (h : CnsL p L cs) : ∃ l, seqOf L = some l ∧ itemsD L = l ∧ l.map isPt = cs.map some ∧ l.length = cs.length := by
  have hi := h.it
  have hl := h.lst
  have e : ∃ l, seqOf L = some l ∧ itemsD L = l := by cases L <;> first | exact ⟨_, rfl, rfl⟩ | cases hl
  obtain ⟨l, e1, e2⟩ := e
  rw [e2] at hi
  refine ⟨l, e1, e2, hi, ?_⟩
  have := congrArg List.length hi
  rw [List.length_map, List.length_map] at this
  exact this
theorem cnsL_pD {p : Int} {cs : List (Int × Int)} (h : CnsOk p cs) : CnsL p (cnsD cs) cs := ⟨h, rfl, by
  show (cs.map pD).map isPt = _
  rw [List.map_map]
  rfl⟩
theorem mem_pt {l : List D} {cs : List (Int × Int)} (h : l.map isPt = cs.map some) {d : D} (hd : d ∈ l) : ∃ c ∈ cs, isPt d = some c := by
  have z : isPt d ∈ l.map isPt := List.mem_map_of_mem hd
  rw [h] at z
  obtain ⟨c, hc, e⟩ := List.mem_map.mp z
  exact ⟨c, hc, e.symm⟩
theorem map_pt {l : List D} {cs : List (Int × Int)} (h : l.map isPt = cs.map some) (f : Int × Int → D) : (l.map fun d => match isPt d with | some c => f c | none => .non) = cs.map f := by
  have e : (l.map fun d => match isPt d with | some c => f c | none => D.non) = (l.map isPt).map fun o => match o with | some c => f c | none => D.non := by
    rw [List.map_map]
    rfl
  rw [e, h, List.map_map]
  rfl
theorem cnsL_good {p : Int} {L : D} {cs : List (Int × Int)} (h : CnsL p L cs) : badCD p L = .non ∧ okC L = true := by
  obtain ⟨l, e1, e2, e3, e4⟩ := h.seq
  have ok := h.ok
  have hm : l.map isCn = cs.map some := by
    have key : ∀ (l : List D) (cs : List (Int × Int)), l.map isPt = cs.map some → (∀ c ∈ cs, 1 ≤ c.2) → l.map isCn = cs.map some := fun l => by
      induction l with
      | nil => intro cs h _; cases cs with
        | nil => rfl
        | cons c cs => cases h
      | cons d l ih =>
        intro cs h hc
        cases cs with
        | nil => cases h
        | cons c cs =>
          rw [List.map_cons, List.map_cons] at h ⊢
          injection h with h1 h2
          rw [pt_cn h1 (hc c List.mem_cons_self), ih cs h2 fun c h => hc c (List.mem_cons_of_mem _ h)]
    exact key l cs e3 fun c hc => (ok.wt c hc).1
  have hn : l ≠ [] := fun z => by
    rw [z] at e4
    exact ok.ne (List.length_eq_zero_iff.mp e4.symm)
  have e : (isLst L && !(itemsD L).isEmpty) = true := by
    rw [h.lst, e2]
    cases l with
    | nil => exact absurd rfl hn
    | cons c cs => rfl
  constructor
  · unfold badCD
    rw [if_pos e, e2, badC_ok hm (by rw [List.nil_append]; exact ok.nd)]
    rfl
  · unfold okC
    rw [e2]
    have hl := ok.few
    have t : (tyN L).isSome = true := by cases L <;> first | rfl | cases e1
    rw [t, decide_eq_true (by omega), Bool.true_and, Bool.and_true]
    refine List.all_eq_true.mpr fun d hd => ?_
    obtain ⟨c, _, hc⟩ := mem_pt e3 hd
    unfold isPt at hc
    split at hc <;> first | rfl | cases hc
noncomputable def gShut : List D → Option Out := gOf (fun x : Int × List Int => [.int x.1, iL x.2]) (fun x => isPrm x.1 = true ∧ x.2.length ≤ 30) fun x => .ret (.bl (shutB x.1 x.2))
theorem gShut_eq {p : Int} {zs : List Int} (h1 : isPrm p = true) (h2 : zs.length ≤ 30) : gShut [.int p, iL zs] = some (.ret (.bl (shutB p zs))) := gOf_eq (ar := fun x : Int × List Int => [.int x.1, iL x.2]) (x := (p, zs)) (fun x y e => by
  injection e with e1 e
  injection e with e2 _
  injection e1 with e1
  injection e2 with e2
  exact Prod.ext e1 (iL_inj e2)) ⟨h1, h2⟩
theorem gRooted_eq {A : Ad} {p : Int} {zs : List Int} (h1 : isPrm p = true) (h2 : zs.length ≤ 30) : gRooted A [.int p, iL zs] = some (.ret (poly A p (rootedP p zs))) := by
  have k : okR (iL zs) = true := by
    show ((decide ((zs.map D.int).length ≤ 1000) && typed (zs.map D.int)) && decide ((zs.map D.int).length ≤ 30)) = true
    rw [List.length_map, decide_eq_true (by omega), decide_eq_true h2, Bool.true_and, Bool.and_true]
    refine List.all_eq_true.mpr fun d hd => ?_
    obtain ⟨x, _, rfl⟩ := List.mem_map.mp hd
    rfl
  have e : gRooted A [.int p, iL zs] = some (gRootB A (.int p) (iL zs)) := if_pos (by rw [k]; rfl)
  rw [e]
  unfold gRootB
  dsimp only
  rw [if_pos h1]
  have o : oddD (iL zs) = .non := by
    show oddO (oddI (zs.map D.int) 0) = .non
    rw [oddI_ints]
    rfl
  rw [o]
  have i : intsD (iL zs) = zs := by
    show (zs.map D.int).map dI = zs
    rw [List.map_map]
    exact (List.map_congr_left fun _ _ => rfl).trans (List.map_id' zs)
  rw [i]
theorem gAt_int {A : Ad} {p n : Int} {r : List Int} (h1 : isPrm p = true) (h2 : r.length ≤ 2000) : gAt A [poly A p r, .int n] = some (.ret (.int (worth p n r))) := by
  rw [gAt_eq h1 h2 rfl]
  rfl
theorem ok_is_shut (T : Tx P K mg A) : CalX P w K mg base 7 "is_shut" (SpS K 2 (spcF gShut)) := by
  have c_rooted := @ok_rooted P w K mg base A T
  have c_Poly_at := @ok_at P w K mg base A T
  obtain ⟨a, fd, F, m, bi⟩ := T.f_is_shut
  refine ⟨a, fd, _, fnS F sc_is_shut rfl (fun cdv A' outer sh H E hr => ⟨_, (pss_cons (ps_asg (pe_cx c_rooted hr (by omega) (by rfl) (passes_call (takes_of rfl rfl rfl rfl) (fun _ _ _ _ z => z)) (pa_cons (pv 0) (pa_cons (pv 1) pa_nil))) (pg_name (i := 2) sc_is_shut.nd rfl (by first | exact .inl rfl | exact .inr rfl)))
  (pss_one (ps_ret (pe_cmpR (DK.op_eq (K := K) (hr.units)) (pe_op op_modK (pe_op (DK.op_add (K := K)) (pe_mtx (pv 2) c_Poly_at hr (by omega) (passes_call (takes_of rfl rfl rfl rfl) (fun _ _ _ _ z => z)) (pa_cons pe_int pa_nil)) (pe_mtx (pv 2) c_Poly_at hr (by omega) (passes_call (takes_of rfl rfl rfl rfl) (fun _ _ _ _ z => z)) (pa_cons pe_int pa_nil))) (pv 0)) pe_int (nomark _))))), fun R k0 ds b hp hl hE => ?_⟩), m, F.kp, bi⟩
  obtain ⟨o, ho⟩ := hp
  obtain ⟨⟨p, zs⟩, rfl, ⟨h1, h2⟩, rfl⟩ := gOf_inv ho
  dsimp only at h1 h2 ho hl ⊢
  obtain ⟨p1, p2⟩ := prm_le h1
  have rl := rooted_len h1 zs
  refine ws_seq (ws_asg (we_callFl (X := fun _ _ _ _ => False) xok0 (wl_cons (we_var rfl (wl_cons (we_var rfl (wl_nil (co_ret rfl (gRooted_eq h1 h2) ?_))))))))
  refine wg_nm (by rfl) ?_
  dsimp only [startD, List.map, List.append, List.replicate, List.set]
  have at_ := fun n => gAt_int (A := A) (p := p) (n := n) (r := rootedP p zs) h1 (by omega)
  refine ws_ret (we_op (we_op (we_op (we_methF (X := fun _ _ _ _ => False) xok0 (we_var rfl ⟨_, _, rfl, by decide, wl_cons (we_int (wl_nil (co_ret rfl (at_ 0) ?_)))⟩)))))
  refine we_methF (X := fun _ _ _ _ => False) xok0 (we_var rfl ⟨_, _, rfl, by decide, wl_cons (we_int (wl_nil (co_ret rfl (at_ 1) ?_)))⟩)
  refine rd_add_int (we_var rfl (rd_mod (by omega) (we_int (rd_eq_int ⟨ho, rfl⟩))))
def negW (p : Int) (d : D) : D := match isPt d with | some c => pD (-c.2, c.1 % p) | none => .non
def ltT : D → Bool
  | .tup [.int _, .int z] => decide (z < 2)
  | _ => false
theorem filter_pD (R : List (Int × Int)) (f : D → Bool) (g : Int × Int → Bool) (h : ∀ r, f (pD r) = g r) : ((R.map pD).filter f) = (R.filter g).map pD := by
  rw [List.filter_map]
  congr 1
  exact List.filter_congr fun r _ => h r
theorem shaped_pD (r : Int × Int) : SeqAt.shaped (pD r).toPy = true := by
  simp [SeqAt.shaped, D.toPy, toPyL, PyData.canLay0, PyData.canLayAll0, PyData.depth, PyData.depthAll]
theorem eqv_pD (r s : Int × Int) : PyData.eqv (pD r).toPy (pD s).toPy = decide (r = s) := by
  have e : PyData.eqv (pD r).toPy (pD s).toPy = (decide (r.1 = s.1) && decide (r.2 = s.2)) := by
    simp [D.toPy, toPyL, PyData.eqv, PyData.eqvAll]
    rfl
  rw [e]
  by_cases h1 : r.1 = s.1
  · by_cases h2 : r.2 = s.2
    · have : r = s := Prod.ext h1 h2
      simp [this]
    · have : r ≠ s := fun z => h2 (by rw [z])
      simp [h2, this]
  · have : r ≠ s := fun z => h1 (by rw [z])
    simp [h1, this]
noncomputable def gBest : List D → Option Out := gOf (fun x : (Int × Nat) × D => [.int x.1.1, .int (x.1.2 : Int), x.2]) (fun x => isPrm x.1.1 = true ∧ x.1.2 ≤ 20 ∧ ∃ cs, CnsL x.1.1 x.2 cs) fun x => .ret (bestD (bestO x.1.1 x.1.2 (cnsOf x.2)))
theorem pdl_inj (x y : (Int × Nat) × D) (e : [D.int x.1.1, .int (x.1.2 : Int), x.2] = [.int y.1.1, .int (y.1.2 : Int), y.2]) : x = y := by
  injection e with e1 e
  injection e with e2 e
  injection e with e3 _
  injection e1 with e1
  injection e2 with e2
  exact Prod.ext (Prod.ext e1 (Int.ofNat.inj e2)) e3
theorem gBest_eq {p : Int} {d : Nat} {L : D} {cs : List (Int × Int)} (h1 : isPrm p = true) (h2 : d ≤ 20) (h3 : CnsL p L cs) : gBest [.int p, .int (d : Int), L] = some (.ret (bestD (bestO p d cs))) := by
  have e := gOf_eq (ar := fun x : (Int × Nat) × D => [.int x.1.1, .int (x.1.2 : Int), x.2]) (ok := fun x => isPrm x.1.1 = true ∧ x.1.2 ≤ 20 ∧ ∃ cs, CnsL x.1.1 x.2 cs) (res := fun x => .ret (bestD (bestO x.1.1 x.1.2 (cnsOf x.2)))) (x := ((p, d), L)) pdl_inj ⟨h1, h2, cs, h3⟩
  dsimp only at e
  rw [h3.of] at e
  exact e
end
end K10

set_option Elab.async false
set_option linter.all false
set_option maxRecDepth 100000
set_option maxHeartbeats 4000000
namespace K10
open PySem PySem.Spec PyProof.Rows L2 DL
section
variable {P : Program} {w : World} {K : PySem.W.Frag} {mg : Str → Option Value} {base : Heap} {A : Ad}
local macro_rules | `(tactic| walk_at "s0") => `(tactic| with_reducible first
  | refine ws_seq ?_ | refine ws_next ?_ | refine ws_ret ?_ | refine ws_retN ?_ | refine ws_if ?_ | refine ws_asg ?_ | refine ws_drop ?_ | refine ws_par ?_ | refine ws_break ?_ | refine ws_cont ?_
  | refine we_var rfl ?_ | refine we_int ?_ | refine we_non ?_ | refine we_bl ?_ | refine we_str ?_ | refine we_ty ?_ | refine we_dnew ?_ | refine we_op ?_ | refine we_un ?_
  | refine we_and ?_ | refine we_or ?_ | refine we_not ?_ | refine we_if ?_ | refine we_chain ?_ | refine we_cb ?_ | refine we_tup ?_ | refine we_lst ?_
  | refine wl_cons ?_ | refine wl_nil ?_ | refine wt_B ?_ | refine wt_test ?_ | refine wt_and ?_ | refine wt_or ?_ | refine wt_not ?_ | refine wt_yes ?_
  | refine wi_tup ?_ | refine wi_list ?_ | refine wg_tup rfl ?_ | refine wgs_cons ?_ | refine wgs_nil ?_
  | refine rd_add_int ?_ | refine rd_sub ?_ | refine rd_lt ?_ | refine rd_le ?_ | refine rd_gt ?_ | refine rd_ge ?_ | refine rd_eq_int ?_ | refine rd_ne_int ?_ | refine rd_eq_str ?_ | refine rd_ne_str ?_ | refine rd_eq_bl ?_ | refine rd_ne_bl ?_ | refine rd_is ?_ | refine rd_is_bl ?_ | refine rd_isnot ?_ | refine ru_neg ?_
  | refine rc_int ?_ | refine rc_abs ?_ | refine rc_anyF ?_ | refine rc_allF ?_
  | refine brT ?_ | refine brF ?_ | refine brT' ?_ | refine brF' ?_
  | refine ⟨_, rfl, ?_⟩)
set_option hygiene false in
local macro_rules | `(tactic| walk_at "s1") => `(tactic| first
  | refine we_isiLT ?_ | refine we_isiILT ?_ | refine wi_seqV (by rfl) (by rfl) ?_ | walk_at "s0" | refine ⟨true, by rfl, ?_⟩ | refine ⟨false, by rfl, ?_⟩ | refine we_ref ?_ | refine we_fld1 ?_ | refine ⟨_, _, _, _, rfl, T.n_Poly_prime, by rfl, ?_⟩ | refine ⟨_, _, _, _, rfl, T.n_Poly_row, by rfl, ?_⟩ | refine rc_isiB (r := true) (by rfl) ?_ | refine rc_isiO T.k_Poly ?_ | refine rc_isiN T.k_Poly (by rfl) ?_ | refine we_callF (by assumption) ?_ | refine we_callF (X := fun _ _ _ _ => False) xok0 ?_ | refine we_callFl (by assumption) ?_ | refine we_callFl (X := fun _ _ _ _ => False) xok0 ?_ | refine we_makeFl (by assumption) ?_ | refine we_makeFl (X := fun _ _ _ _ => False) xok0 ?_ | refine we_makeF (by assumption) ?_ | refine we_makeF (X := fun _ _ _ _ => False) xok0 ?_ | refine DX.ws_rs (by assumption) ?_ | refine wt_test ?_ | refine co_ret rfl (by rfl) ?_ | refine wg_nm (by rfl) ?_ | refine parB (by rfl) (by rfl) ?_ | refine szB (by rfl) ?_ | refine szL (by rfl) ?_ | refine brT2 (by rfl) ?_ | refine brF2 (by rfl) ?_ | refine brT3 (by rfl) ?_ | refine brF3 (by rfl) ?_ | refine rc_isiB (r := false) (by rfl) ?_)
theorem map_int {R : List (Int × Int)} (f : D → D) (g : Int × Int → Int) (h : ∀ r, f (pD r) = .int (g r)) : (R.map pD).map f = (R.map g).map D.int := by
  rw [List.map_map, List.map_map]
  exact List.map_congr_left fun r _ => h r
def sndD : D → D
  | .tup [_, d] => d
  | _ => .non
def fstD : D → D
  | .tup [d, _] => d
  | _ => .non
theorem mem_pD {R : List (Int × Int)} {d : D} (h : d ∈ R.map pD) : ∃ r ∈ R, d = pD r := by
  obtain ⟨r, hr, e⟩ := List.mem_map.mp h
  exact ⟨r, hr, e.symm⟩
/-- [number for weight, number in rows] -/
theorem topR_len (p : Int) (d : Nat) (R : List (Int × Int)) : (topR p d R).length ≤ d + 1 ∧ (topR p d R).length ≤ R.length + 1 := by
  unfold topR
  split
  · rw [List.length_append, List.length_take, List.length_take, List.length_drop]
    omega
  · rw [List.length_take]
    omega
inductive BS (p : Int) (d : Nat) (L : D) (R : List (Int × Int)) (b : Nat) : Sta → Prop
  | mk {x4 x5 x6 x7 x8 : Option D} : BS p d L R b { δ := [some (.int p), some (.int (d : Int)), some L, some (.lst (R.map pD)), x4, x5, x6, x7, x8], m := [], b := b }
inductive BT (C : List (Int × Int)) (b : Nat) : Sta → Prop
  | mk {x0 x1 x2 x3 x4 x6 x7 x8 : Option D} : BT C b { δ := [x0, x1, x2, x3, x4, some (.lst (C.map pD)), x6, x7, x8], m := [], b := b }
theorem ok_best_set (T : Tx P K mg A) : CalX P w K mg base 8 "best_set" (SpS K 3 (spcF gBest)) := by
  have c_is_shut := @ok_is_shut P w K mg base A T
  obtain ⟨a, fd, F, m, bi⟩ := T.f_best_set
  refine ⟨a, fd, _, fnS F sc_best_set rfl (fun cdv A' outer sh H E hr => ⟨_, (pss_cons (ps_if (pt_cmpR (DK.op_eq (K := K) (hr.units)) (pv 1) pe_int (nomark _))
  (pss_one (ps_ret (pe_ifExp (pt_cmpR (DK.op_eq (K := K) (hr.units)) (pv 0) pe_int (nomark _)) pe_non (pe_tup (pa_cons pe_int (pa_cons (pe_lst pa_nil) pa_nil))))))
  pss_nil)
  (pss_cons (ps_asg (pe_callB (DK.srtP (K := K)) (by rfl) T.z_sorted (by decide +kernel) (pa_cons (pe_lc (own := [("number", 7), ("weight", 8)]) (g := (DK.gSq K 2 (gCons (gName 7) (gCons (gName 8) gNil)))) (tt := tYes) rfl sc_best_set.nd (DK.pi_seq (K := K) (pv 2)) (blkOk_by (own := [("number", 7), ("weight", 8)]) (N := n_best_set) (sc := (defScope s_best_set)) (by first | decide +kernel | kernel_rfl)) (fun _ _ _ _ _ => (DK.pg_sq (K := K) rfl (pgs_cons (pg_name (i := 7) sc_best_set.nd rfl (by first | exact .inl rfl | exact .inr rfl)) (pgs_cons (pg_name (i := 8) sc_best_set.nd rfl (by first | exact .inl rfl | exact .inr rfl)) pgs_nil)))) (fun _ _ _ _ _ => pts_nil) (fun _ _ _ _ _ => (pe_tup (pa_cons (pe_un un_negK (pv 8)) (pa_cons (pe_op op_modK (pv 7) (pv 0)) pa_nil))))) pa_nil)) (pg_name (i := 3) sc_best_set.nd rfl (by first | exact .inl rfl | exact .inr rfl)))
  (pss_cons (ps_asg (pe_lc (own := [("row", 6)]) (g := (gName 6)) rfl sc_best_set.nd (DK.pi_seq (K := K) (pv 3)) (blkOk_by (own := [("row", 6)]) (N := n_best_set) (sc := (defScope s_best_set)) (by first | decide +kernel | kernel_rfl)) (fun _ _ _ _ _ => (pg_name (i := 6) sc_best_set.nd rfl (by first | exact .inl rfl | exact .inr rfl))) (fun _ _ _ _ _ => (pts_one (pt_cmpR op_ltK (pe_ix (DK.ix (K := K)) (pv 6) pe_int (fun _ _ => rfl)) pe_int (nomark _)))) (fun _ _ _ _ _ => (pv 6))) (pg_name (i := 4) sc_best_set.nd rfl (by first | exact .inl rfl | exact .inr rfl)))
  (pss_cons (ps_if (pt_cmpR (DK.op_eq (K := K) (hr.units)) (pe_callB (DK.len (K := K)) (by rfl) T.z_len (by decide +kernel) (pa_cons (pv 4) pa_nil)) pe_int (nomark _))
  (pss_one (ps_setLc (i := 3) (own := [("row", 6)]) (g := (gName 6)) rfl sc_best_set.nd rfl rfl (sw_true rfl rfl rfl (by decide +kernel)) (DK.pi_seq (K := K) (pv 3)) (blkOk_by (own := [("row", 6)]) (N := n_best_set) (sc := (defScope s_best_set)) (by first | decide +kernel | kernel_rfl)) (fun _ _ _ _ _ => (pg_name (i := 6) sc_best_set.nd rfl (by first | exact .inl rfl | exact .inr rfl))) (fun _ _ _ _ _ => (pts_one (pt_cmpR (DK.op_ne (K := K) (hr.units)) (pv 6) (pe_ix (DK.ix (K := K)) (pv 4) pe_int (fun _ _ => rfl)) (nomark _)))) (fun _ _ _ _ _ => (pv 6))))
  pss_nil)
  (pss_cons (ps_asg (pe_slice (DK.sl (K := K)) (pv 3) po_none (po_some (pv 1))) (pg_name (i := 5) sc_best_set.nd rfl (by first | exact .inl rfl | exact .inr rfl)))
  (pss_cons (ps_if (PW.pt (pw_and (pt_cmpR (DK.op_eq (K := K) (hr.units)) (pe_callB (DK.len (K := K)) (by rfl) T.z_len (by decide +kernel) (pa_cons (pv 5) pa_nil)) (pv 1) (nomark _)) (pw_and1 (pt_val (pe_cx c_is_shut hr (by omega) (by rfl) (passes_call (takes_of rfl rfl rfl rfl) (fun _ _ _ _ z => z)) (pa_cons (pv 0) (pa_cons (pe_lc (own := [("weight", 8), ("number", 7)]) (g := (DK.gSq K 2 (gCons (gName 8) (gCons (gName 7) gNil)))) (tt := tYes) rfl sc_best_set.nd (DK.pi_seq (K := K) (pv 5)) (blkOk_by (own := [("weight", 8), ("number", 7)]) (N := n_best_set) (sc := (defScope s_best_set)) (by first | decide +kernel | kernel_rfl)) (fun _ _ _ _ _ => (DK.pg_sq (K := K) rfl (pgs_cons (pg_name (i := 8) sc_best_set.nd rfl (by first | exact .inl rfl | exact .inr rfl)) (pgs_cons (pg_name (i := 7) sc_best_set.nd rfl (by first | exact .inl rfl | exact .inr rfl)) pgs_nil)))) (fun _ _ _ _ _ => pts_nil) (fun _ _ _ _ _ => (pv 7))) pa_nil)))))))
  (pss_one (ps_asg (pe_op (DK.op_add (K := K)) (pe_slice (DK.sl (K := K)) (pv 3) po_none (po_some (pe_op op_subK (pv 1) pe_int))) (pe_slice (DK.sl (K := K)) (pv 3) (po_some (pv 1)) (po_some (pe_op (DK.op_add (K := K)) (pv 1) pe_int)))) (pg_name (i := 5) sc_best_set.nd rfl (by first | exact .inl rfl | exact .inr rfl))))
  pss_nil)
  (pss_one (ps_ret (pe_tup (pa_cons (pe_un un_negK (pe_callB (DK.sum (K := K)) (by rfl) T.z_sum (by decide +kernel) (pa_cons (pe_lc (own := [("weight", 8), ("number", 7)]) (g := (DK.gSq K 2 (gCons (gName 8) (gCons (gName 7) gNil)))) (tt := tYes) rfl sc_best_set.nd (DK.pi_seq (K := K) (pv 5)) (blkOk_by (own := [("weight", 8), ("number", 7)]) (N := n_best_set) (sc := (defScope s_best_set)) (by first | decide +kernel | kernel_rfl)) (fun _ _ _ _ _ => (DK.pg_sq (K := K) rfl (pgs_cons (pg_name (i := 8) sc_best_set.nd rfl (by first | exact .inl rfl | exact .inr rfl)) (pgs_cons (pg_name (i := 7) sc_best_set.nd rfl (by first | exact .inl rfl | exact .inr rfl)) pgs_nil)))) (fun _ _ _ _ _ => pts_nil) (fun _ _ _ _ _ => (pv 8))) pa_nil))) (pa_cons (pe_callB (DK.srtI (K := K)) (by rfl) T.z_sorted (by decide +kernel) (pa_cons (pe_lc (own := [("weight", 8), ("number", 7)]) (g := (DK.gSq K 2 (gCons (gName 8) (gCons (gName 7) gNil)))) (tt := tYes) rfl sc_best_set.nd (DK.pi_seq (K := K) (pv 5)) (blkOk_by (own := [("weight", 8), ("number", 7)]) (N := n_best_set) (sc := (defScope s_best_set)) (by first | decide +kernel | kernel_rfl)) (fun _ _ _ _ _ => (DK.pg_sq (K := K) rfl (pgs_cons (pg_name (i := 8) sc_best_set.nd rfl (by first | exact .inl rfl | exact .inr rfl)) (pgs_cons (pg_name (i := 7) sc_best_set.nd rfl (by first | exact .inl rfl | exact .inr rfl)) pgs_nil)))) (fun _ _ _ _ _ => pts_nil) (fun _ _ _ _ _ => (pv 7))) pa_nil)) pa_nil))))))))))), fun R k0 ds b hp hl hE => ?_⟩), m, F.kp, bi⟩
  obtain ⟨o, ho⟩ := hp
  obtain ⟨⟨⟨p, d⟩, L⟩, rfl, ⟨h1, h2, cs, hc⟩, rfl⟩ := gOf_inv ho
  dsimp only at h1 h2 hc ho hl ⊢
  rw [hc.of] at ho
  obtain ⟨p1, p2⟩ := prm_le h1
  obtain ⟨l, sq, ei, hi, ll⟩ := hc.seq
  have few := hc.ok.few
  dsimp only [startD, List.map, List.append, List.replicate]
  refine ws_seq (ws_if (wt_test (we_op (we_var rfl (we_int (rd_eq_int ⟨_, rfl, fun hz => ?_, fun hz => ?_⟩))))))
  · have hz : d = 0 := by have := of_decide_eq_true hz; omega
    subst hz
    refine ws_ret (we_if (wt_test (we_op (we_var rfl (we_int (rd_eq_int ⟨_, rfl, fun h2 => ?_, fun h2 => ?_⟩))))))
    · have e : bestO p 0 cs = none := by unfold bestO; rw [if_pos rfl, if_pos (of_decide_eq_true h2)]
      rw [e] at ho
      exact we_non ⟨ho, rfl⟩
    · have e : bestO p 0 cs = some (0, []) := by unfold bestO; rw [if_pos rfl, if_neg (of_decide_eq_false h2)]
      rw [e] at ho
      exact we_tup (wl_cons (we_int (wl_cons (we_lst (wl_nil (szB rfl (wl_nil (szB rfl ⟨ho, rfl⟩))))))))
  have hz : d ≠ 0 := by have := of_decide_eq_false hz; omega
  refine ws_next ?_
  have eb : bestO p d cs = some (-((bestT p d cs).map (·.1)).sum, sortI ((bestT p d cs).map (·.2))) := if_neg hz
  rw [eb] at ho
  -- rows
  refine ws_cut (BS p d L (srtP (rowsOf p cs)) b) ?_ ?_
  · refine ws_asg (we_cb (wl_cons (we_lcM (kg_sq (kgs_cons (by decide) (kgs_cons (by decide) kgs_nil))) (wi_seqV rfl sq ?_))))
    refine ⟨negW p, lt_size (by omega), fun x hx oo acc => ?_, ?_⟩
    · obtain ⟨c, hcm, ec⟩ := mem_pt hi hx
      refine wg_sq (pt_seq ec) rfl (wgs_cons (wg_nm (by rfl) (wgs_cons (wg_nm (by rfl) (wgs_nil ?_)))))
      dsimp only [List.set, wipeD]
      refine we_tup (wl_cons (we_un (we_var rfl (ru_neg (wl_cons (we_op (we_var rfl (we_var rfl (rd_mod (by omega) (wl_nil (szB rfl ?_)))))))))))
      refine ⟨?_, rfl, rfl⟩
      unfold negW
      rw [ec]
    · have e : l.map (negW p) = (rowsOf p cs).map pD := by
        unfold negW
        rw [map_pt hi]
        unfold rowsOf
        rw [List.map_map]
        rfl
      rw [e]
      refine wl_nil (rc_srtP fun qs q1 q2 => ?_)
      rw [srtP_uniq q1 q2]
      refine wg_nm (by rfl) ?_
      dsimp only [List.set]
      exact .mk
  rintro ς ⟨⟩
  have rlen : (srtP (rowsOf p cs)).length = cs.length := by
    rw [(srtP_spec _).1.length_eq]
    unfold rowsOf
    rw [List.length_map]
  have et : bestT p d cs = topR p d (cutR (srtP (rowsOf p cs))) := rfl
  rw [et] at ho
  generalize srtP (rowsOf p cs) = R at rlen ho
  refine ws_seq (ws_asg (we_lcF (kg_name (by decide)) (wi_seqV rfl rfl ?_)))
  refine ⟨ltT, id, lt_size (by rw [List.length_map]; omega), fun x hx oo acc => ?_, ?_⟩
  · obtain ⟨r, _, rfl⟩ := mem_pD hx
    refine wg_nm (by rfl) ?_
    dsimp only [List.set, wipeD]
    refine wt_test (we_op (we_op (we_var rfl (we_int (rd_ix rfl (d := .int r.2) atI_1 (we_int (rd_lt ⟨_, rfl, rfl, fun _ => we_var rfl ⟨rfl, rfl, rfl⟩, fun _ => ⟨rfl, rfl⟩⟩)))))))
  rw [List.map_id, filter_pD R ltT (fun r => decide (r.2 < 2)) fun r => rfl]
  refine wg_nm (by rfl) ?_
  dsimp only [List.set]
  have el : R.filter (fun r => decide (r.2 < 2)) = lessR R := rfl
  rw [el]
  have lle : (lessR R).length ≤ R.length := List.length_filter_le _ _
  refine ws_cut (BS p d L (cutR R) b) ?_ ?_
  · refine ws_if (wt_test (we_op (we_cb (wl_cons (we_var rfl (wl_nil (rc_len rfl ?_)))))))
    rw [List.length_map]
    refine we_int (rd_eq_int ⟨_, rfl, fun hz2 => ?_, fun hz2 => ?_⟩)
    · have hz2 : (lessR R).length = 2 := by have := of_decide_eq_true hz2; omega
      obtain ⟨x, y, exy⟩ : ∃ x y, lessR R = [x, y] := by
        match h : lessR R, hz2 with
        | [x, y], _ => exact ⟨x, y, rfl⟩
      have ec : cutR R = R.filter fun r => !decide (r = y) := by
        unfold cutR
        rw [if_pos hz2, exy]
        rfl
      rw [exy]
      refine ws_asg (we_lcF (kg_name (by decide)) (wi_seqV rfl rfl ?_))
      refine ⟨fun d => match d with | .tup [.int u, .int v] => !decide ((u, v) = y) | _ => false, id, lt_size (by rw [List.length_map]; omega), fun x' hx oo acc => ?_, ?_⟩
      · obtain ⟨r, _, rfl⟩ := mem_pD hx
        refine wg_nm (by rfl) ?_
        dsimp only [List.set, wipeD]
        refine wt_test (we_op (we_var rfl (we_op (we_var rfl (we_int (rd_ix rfl (d := pD y) atI_1 (rd_ne_py (shaped_pD r) (shaped_pD y) ?_)))))))
        rw [eqv_pD]
        exact ⟨_, rfl, rfl, fun _ => we_var rfl ⟨rfl, rfl, rfl⟩, fun _ => ⟨rfl, rfl⟩⟩
      · rw [List.map_id, filter_pD R _ (fun r => !decide (r = y)) fun r => rfl, ← ec]
        refine wg_nm (by rfl) ?_
        dsimp only [List.set]
        exact .mk
    · have hz2 : ¬ (lessR R).length = 2 := by have := of_decide_eq_false hz2; omega
      have ec : cutR R = R := if_neg hz2
      rw [ec]
      refine ws_next ?_
      exact .mk
  rintro ς ⟨⟩
  have clen : (cutR R).length ≤ R.length := by
    unfold cutR
    split
    · exact List.length_filter_le _ _
    · exact Nat.le_refl _
  generalize cutR R = Q at clen ho
  refine ws_seq (ws_asg (we_slL (we_var rfl (wo_none (wo_some (we_var rfl ⟨_, rfl, _, rfl, ?_⟩))))))
  rw [cut_take, ← List.map_take]
  refine wg_nm (by rfl) ?_
  dsimp only [List.set]
  refine ws_cut (BT (topR p d Q) b) ?_ ?_
  · refine ws_if (wt_and (wt_test (we_op (we_cb (wl_cons (we_var rfl (wl_nil (rc_len rfl ?_))))))))
    rw [List.length_map]
    refine we_var rfl (rd_eq_int ⟨_, rfl, fun h3 => ?_, fun h3 => ?_⟩)
    rotate_left
    · have h3 : ¬ (Q.take d).length = d := by have := of_decide_eq_false h3; omega
      have e : topR p d Q = Q.take d := if_neg fun z => h3 z.1
      rw [e]
      refine ⟨fun z => (nomatch z), fun _ => ?_⟩
      refine ws_next ?_
      exact .mk
    have h3 : (Q.take d).length = d := by have := of_decide_eq_true h3; omega
    refine wt_test (we_callF (X := fun _ _ _ _ => False) xok0 (wl_cons (we_var rfl (wl_cons (we_lcM (kg_sq (kgs_cons (by decide) (kgs_cons (by decide) kgs_nil))) (wi_seqV rfl rfl ?_))))))
    refine ⟨sndD, lt_size (by rw [List.length_map]; omega), fun x hx oo acc => ?_, ?_⟩
    · obtain ⟨r, _, rfl⟩ := mem_pD hx
      refine wg_sq rfl rfl (wgs_cons (wg_nm (by rfl) (wgs_cons (wg_nm (by rfl) (wgs_nil ?_)))))
      dsimp only [List.set, wipeD]
      exact we_var rfl ⟨rfl, rfl, rfl⟩
    rw [map_int sndD (·.2) fun r => rfl]
    refine wl_nil (co_ret rfl (gShut_eq (zs := (Q.take d).map (·.2)) h1 (by rw [List.length_map]; omega)) ?_)
    cases hs : shutB p ((Q.take d).map (·.2)) with
    | false =>
      have e : topR p d Q = Q.take d := if_neg fun z => by rw [hs] at z; exact Bool.noConfusion z.2
      rw [e]
      refine ⟨false, rfl, fun z => (nomatch z), fun _ => ?_⟩
      refine ws_next ?_
      exact .mk
    | true =>
      have e : topR p d Q = Q.take (d - 1) ++ (Q.drop d).take 1 := if_pos ⟨h3, hs⟩
      refine ⟨true, rfl, fun _ => ?_, fun z => (nomatch z)⟩
      refine ws_asg (we_op (we_slL (we_var rfl (wo_none (wo_some (we_op (we_var rfl (we_int (rd_sub ⟨_, rfl, _, rfl, ?_⟩)))))))))
      have e1 : ((d : Int) - 1) = ((d - 1 : Nat) : Int) := by omega
      rw [e1, cut_take, ← List.map_take]
      refine we_slL (we_var rfl (wo_some (we_var rfl ⟨_, rfl, wo_some (we_op (we_var rfl (we_int (rd_add_int ⟨_, rfl, _, rfl, ?_⟩))))⟩)))
      have e2 : ((d : Int) + 1) = ((d + 1 : Nat) : Int) := by omega
      have e3 : d + 1 - d = 1 := by omega
      rw [e2, cut_mid, e3, ← List.map_drop, ← List.map_take]
      refine rd_add_lst (by rw [List.length_map, List.length_map, List.length_take, List.length_take, sizeLine_eq]; omega) ?_
      rw [← List.map_append, ← e]
      refine wg_nm (by rfl) ?_
      dsimp only [List.set]
      exact .mk
  rintro ς ⟨⟩
  have tlen := topR_len p d Q
  generalize topR p d Q = C at tlen ho
  refine ws_ret (we_tup (wl_cons (we_un (we_cb (wl_cons (we_lcM (kg_sq (kgs_cons (by decide) (kgs_cons (by decide) kgs_nil))) (wi_seqV rfl rfl ?_)))))))
  refine ⟨fstD, lt_size (by rw [List.length_map]; omega), fun x hx oo acc => ?_, ?_⟩
  · obtain ⟨r, _, rfl⟩ := mem_pD hx
    refine wg_sq rfl rfl (wgs_cons (wg_nm (by rfl) (wgs_cons (wg_nm (by rfl) (wgs_nil ?_)))))
    dsimp only [List.set, wipeD]
    exact we_var rfl ⟨rfl, rfl, rfl⟩
  rw [map_int fstD (·.1) fun r => rfl]
  refine wl_nil (rc_sum (ru_neg (wl_cons (we_cb (wl_cons (we_lcM (kg_sq (kgs_cons (by decide) (kgs_cons (by decide) kgs_nil))) (wi_seqV rfl rfl ?_)))))))
  refine ⟨sndD, lt_size (by rw [List.length_map]; omega), fun x hx oo acc => ?_, ?_⟩
  · obtain ⟨r, _, rfl⟩ := mem_pD hx
    refine wg_sq rfl rfl (wgs_cons (wg_nm (by rfl) (wgs_cons (wg_nm (by rfl) (wgs_nil ?_)))))
    dsimp only [List.set, wipeD]
    exact we_var rfl ⟨rfl, rfl, rfl⟩
  rw [map_int sndD (·.2) fun r => rfl]
  refine wl_nil (rc_srtI fun ns q1 q2 => ?_)
  rw [sortI_uniq q1 q2]
  exact wl_nil (szB rfl ⟨ho, rfl⟩)
end
end K10

set_option Elab.async false
set_option linter.all false
set_option maxRecDepth 100000
set_option maxHeartbeats 4000000
namespace K10
open PySem PySem.Spec PyProof.Rows L2 DL
section
variable {P : Program} {w : World} {K : PySem.W.Frag} {mg : Str → Option Value} {base : Heap} {A : Ad}
local macro_rules | `(tactic| walk_at "s0") => `(tactic| with_reducible first
  | refine ws_seq ?_ | refine ws_next ?_ | refine ws_ret ?_ | refine ws_retN ?_ | refine ws_if ?_ | refine ws_asg ?_ | refine ws_drop ?_ | refine ws_par ?_ | refine ws_break ?_ | refine ws_cont ?_
  | refine we_var rfl ?_ | refine we_int ?_ | refine we_non ?_ | refine we_bl ?_ | refine we_str ?_ | refine we_ty ?_ | refine we_dnew ?_ | refine we_op ?_ | refine we_un ?_
  | refine we_and ?_ | refine we_or ?_ | refine we_not ?_ | refine we_if ?_ | refine we_chain ?_ | refine we_cb ?_ | refine we_tup ?_ | refine we_lst ?_
  | refine wl_cons ?_ | refine wl_nil ?_ | refine wt_B ?_ | refine wt_test ?_ | refine wt_and ?_ | refine wt_or ?_ | refine wt_not ?_ | refine wt_yes ?_
  | refine wi_tup ?_ | refine wi_list ?_ | refine wg_tup rfl ?_ | refine wgs_cons ?_ | refine wgs_nil ?_
  | refine rd_add_int ?_ | refine rd_sub ?_ | refine rd_lt ?_ | refine rd_le ?_ | refine rd_gt ?_ | refine rd_ge ?_ | refine rd_eq_int ?_ | refine rd_ne_int ?_ | refine rd_eq_str ?_ | refine rd_ne_str ?_ | refine rd_eq_bl ?_ | refine rd_ne_bl ?_ | refine rd_is ?_ | refine rd_is_bl ?_ | refine rd_isnot ?_ | refine ru_neg ?_
  | refine rc_int ?_ | refine rc_abs ?_ | refine rc_anyF ?_ | refine rc_allF ?_
  | refine brT ?_ | refine brF ?_ | refine brT' ?_ | refine brF' ?_
  | refine ⟨_, rfl, ?_⟩)
set_option hygiene false in
local macro_rules | `(tactic| walk_at "s1") => `(tactic| first
  | refine we_isiLT ?_ | refine we_isiILT ?_ | refine wi_seqV (by rfl) (by rfl) ?_ | walk_at "s0" | refine ⟨true, by rfl, ?_⟩ | refine ⟨false, by rfl, ?_⟩ | refine we_ref ?_ | refine we_fld1 ?_ | refine ⟨_, _, _, _, rfl, T.n_Poly_prime, by rfl, ?_⟩ | refine ⟨_, _, _, _, rfl, T.n_Poly_row, by rfl, ?_⟩ | refine rc_isiB (r := true) (by rfl) ?_ | refine rc_isiO T.k_Poly ?_ | refine rc_isiN T.k_Poly (by rfl) ?_ | refine we_callF (by assumption) ?_ | refine we_callF (X := fun _ _ _ _ => False) xok0 ?_ | refine we_callFl (by assumption) ?_ | refine we_callFl (X := fun _ _ _ _ => False) xok0 ?_ | refine we_makeFl (by assumption) ?_ | refine we_makeFl (X := fun _ _ _ _ => False) xok0 ?_ | refine we_makeF (by assumption) ?_ | refine we_makeF (X := fun _ _ _ _ => False) xok0 ?_ | refine DX.ws_rs (by assumption) ?_ | refine wt_test ?_ | refine co_ret rfl (by rfl) ?_ | refine wg_nm (by rfl) ?_ | refine parB (by rfl) (by rfl) ?_ | refine szB (by rfl) ?_ | refine szL (by rfl) ?_ | refine brT2 (by rfl) ?_ | refine brF2 (by rfl) ?_ | refine brT3 (by rfl) ?_ | refine brF3 (by rfl) ?_ | refine rc_isiB (r := false) (by rfl) ?_)
/-! heaviest, wrong -/
abbrev pdlA (x : (Int × Nat) × D) : List D := [.int x.1.1, .int (x.1.2 : Int), x.2]
def pdlOk (x : (Int × Nat) × D) : Prop := isPrm x.1.1 = true ∧ x.1.2 ≤ 20 ∧ ∃ cs, CnsL x.1.1 x.2 cs
noncomputable def gAll : List D → Option Out := gOf pdlA pdlOk fun _ => .ret .non
theorem gAll_eq {p : Int} {d : Nat} {L : D} {cs : List (Int × Int)} (h1 : isPrm p = true) (h2 : d ≤ 20) (h3 : CnsL p L cs) : gAll [.int p, .int (d : Int), L] = some (.ret .non) :=
  gOf_eq (ar := pdlA) (ok := pdlOk) (x := ((p, d), L)) pdl_inj ⟨h1, h2, cs, h3⟩
theorem ok_check_all (T : Tx P K mg A) : CalX P w K mg base 5 "check_all" (SpS K 3 (spcF gAll)) := by
  have c_check_prime := @ok_check_prime P w K mg base A T
  have c_is_integer := @ok_is_integer P w K mg base A T
  have c_check_coins := @ok_check_coins P w K mg base A T
  obtain ⟨a, fd, F, m, bi⟩ := T.f_check_all
  refine ⟨a, fd, _, fnS F sc_check_all rfl (fun cdv A' outer sh H E hr => ⟨_, (pss_cons (ps_expr (pe_cx c_check_prime hr (by omega) (by rfl) (passes_call (takes_of rfl rfl rfl rfl) (fun _ _ _ _ z => z)) (pa_cons (pv 0) pa_nil)))
  (pss_cons (ps_if (PW.pt (pw_or (pt_not (pt_val (pe_cx c_is_integer hr (by omega) (by rfl) (passes_call (takes_of rfl rfl rfl rfl) (fun _ _ _ _ z => z)) (pa_cons (pv 1) pa_nil)))) (pw_or1 (pt_cmpR op_ltK (pv 1) pe_int (nomark _)))))
  (pss_one (DX.ps_rs (takes_of rfl rfl rfl rfl) T.x_BadDegree (by decide) (by decide) hr (pa_cons (pv 1) pa_nil)))
  pss_nil)
  (pss_one (ps_expr (pe_cx c_check_coins hr (by omega) (by rfl) (passes_call (takes_of rfl rfl rfl rfl) (fun _ _ _ _ z => z)) (pa_cons (pv 0) (pa_cons (pv 2) pa_nil))))))), fun R k0 ds b hp hl hE => ?_⟩), m, F.kp, bi⟩
  obtain ⟨o, ho⟩ := hp
  obtain ⟨⟨⟨p, d⟩, L⟩, rfl, ⟨h1, h2, cs, hc⟩, rfl⟩ := gOf_inv ho
  dsimp only at h1 h2 hc ho hl ⊢
  have gp : gPrime A [.int p] = some (.ret .non) := by rw [gPrime_int, if_pos h1]
  obtain ⟨c1, c2⟩ := cnsL_good hc
  have gc : gChkC A [.int p, L] = some (.ret .non) := by
    have e : gChkC A [.int p, L] = some (match badCD p L with | .int i => .exc A.BadCoin ["index"] [.int i] | _ => .ret .non) := if_pos (by rw [h1, c2]; rfl)
    rw [e, c1]
  refine ws_seq (ws_drop (we_callF (X := fun _ _ _ _ => False) xok0 (wl_cons (we_var rfl (wl_nil (co_ret rfl gp ?_))))))
  refine ws_seq (ws_if (wt_or (wt_not (wt_B (we_callF (X := fun _ _ _ _ => False) xok0 (wl_cons (we_var rfl (wl_nil (co_ret rfl (gIsInt_eq rfl) ?_)))))))))
  refine ⟨true, rfl, ?_⟩
  refine ⟨fun _ => ?_, fun z => (nomatch z)⟩
  refine wt_test (we_op (we_var rfl (we_int (rd_lt ⟨_, rfl, fun z => ?_, fun _ => ?_⟩))))
  · exact absurd (of_decide_eq_true z) (by omega)
  refine ws_next ?_
  refine ws_drop (we_callF (X := fun _ _ _ _ => False) xok0 (wl_cons (we_var rfl (wl_cons (we_var rfl (wl_nil (co_ret rfl gc ?_)))))))
  exact ⟨ho, rfl⟩
def wsum (cs : List (Int × Int)) : Int := (cs.map (·.2)).sum
theorem sum_bd {l : List Int} {lo hi : Int} (h : ∀ x ∈ l, lo ≤ x ∧ x ≤ hi) : lo * l.length ≤ l.sum ∧ l.sum ≤ hi * l.length := by
  induction l with
  | nil => simp
  | cons x l ih =>
    obtain ⟨a, b⟩ := ih fun y hy => h y (List.mem_cons_of_mem _ hy)
    obtain ⟨c, d⟩ := h x List.mem_cons_self
    rw [List.sum_cons, List.length_cons]
    have e : ∀ k : Int, k * ((l.length + 1 : Nat) : Int) = k * (l.length : Int) + k := fun k => by push_cast; rw [Int.mul_add, Int.mul_one]
    rw [e, e]
    omega
theorem wsum_bd {p : Int} {cs : List (Int × Int)} (h : CnsOk p cs) : 0 < wsum cs ∧ wsum cs < 1000000000 := by
  have hl : 0 < cs.length := by
    have := h.ne
    cases cs with
    | nil => exact absurd rfl this
    | cons c cs => simp
  have few := h.few
  obtain ⟨a, b⟩ := sum_bd (l := cs.map (·.2)) (lo := 1) (hi := 1000) fun x hx => by
    obtain ⟨c, hc, rfl⟩ := List.mem_map.mp hx
    exact h.wt c hc
  rw [List.length_map] at a b
  unfold wsum
  omega
theorem bestT_mem {p : Int} {d : Nat} {cs : List (Int × Int)} {r : Int × Int} (h : r ∈ bestT p d cs) : r ∈ rowsOf p cs := by
  have h1 : ∀ {R : List (Int × Int)} {r}, r ∈ topR p d R → r ∈ R := fun {R r} h => by
    unfold topR at h
    split at h
    · rcases List.mem_append.mp h with h | h
      · exact List.mem_of_mem_take h
      · exact List.mem_of_mem_drop (List.mem_of_mem_take h)
    · exact List.mem_of_mem_take h
  have h2 : ∀ {R : List (Int × Int)} {r}, r ∈ cutR R → r ∈ R := fun {R r} h => by
    unfold cutR at h
    split at h
    · exact (List.mem_filter.mp h).1
    · exact h
  exact (srtP_spec _).1.mem_iff.mp (h2 (h1 h))
theorem best_pos {p : Int} {d : Nat} {cs : List (Int × Int)} (h : ∀ c ∈ cs, 1 ≤ c.2) : 0 ≤ -((bestT p d cs).map (·.1)).sum := by
  have z : ∀ l : List (Int × Int), (∀ r ∈ l, r.1 ≤ 0) → (l.map (·.1)).sum ≤ 0 := fun l => by
    induction l with
    | nil => intro _; simp
    | cons r l ih =>
      intro h
      have := ih fun r hr => h r (List.mem_cons_of_mem _ hr)
      have := h r List.mem_cons_self
      rw [List.map_cons, List.sum_cons]
      omega
  have := z (bestT p d cs) fun r hr => by
    obtain ⟨c, hc, rfl⟩ := List.mem_map.mp (bestT_mem hr)
    have := h c hc
    dsimp only
    omega
  omega
theorem bestO_pos {p : Int} {d : Nat} {cs : List (Int × Int)} {W : Int} {ns : List Int} (h : ∀ c ∈ cs, 1 ≤ c.2) (e : bestO p d cs = some (W, ns)) : 0 ≤ W := by
  unfold bestO at e
  split at e
  · split at e <;> cases e
    exact Int.le_refl _
  · injection e with e
    injection e with e1 _
    rw [← e1]
    exact best_pos h
def heavO (A : Ad) (p : Int) (d : Nat) (cs : List (Int × Int)) : Out := match bestO p d cs with
  | none => .exc A.NoPoly [] []
  | some x => .ret (.tup [pD (lowI x.1 (wsum cs)), iL x.2])
noncomputable def gHeav (A : Ad) : List D → Option Out := gOf pdlA pdlOk fun x => heavO A x.1.1 x.1.2 (cnsOf x.2)
theorem gHeav_eq {A : Ad} {p : Int} {d : Nat} {L : D} {cs : List (Int × Int)} (h1 : isPrm p = true) (h2 : d ≤ 20) (h3 : CnsL p L cs) : gHeav A [.int p, .int (d : Int), L] = some (heavO A p d cs) := by
  have e := gOf_eq (ar := pdlA) (ok := pdlOk) (res := fun x => heavO A x.1.1 x.1.2 (cnsOf x.2)) (x := ((p, d), L)) pdl_inj ⟨h1, h2, cs, h3⟩
  dsimp only at e
  rw [h3.of] at e
  exact e
theorem map_snd {l : List D} {cs : List (Int × Int)} (h : l.map isPt = cs.map some) : (l.map fun d => match isPt d with | some c => D.int c.2 | none => .non) = (cs.map (·.2)).map D.int := by
  refine (map_pt h fun c => D.int c.2).trans ?_
  rw [List.map_map]
  rfl
theorem ok_heaviest (T : Tx P K mg A) : CalX P w K mg base 9 "heaviest" (SpS K 3 (spcF (gHeav A))) := by
  have c_check_all := @ok_check_all P w K mg base A T
  have c_best_set := @ok_best_set P w K mg base A T
  have c_lowest := @ok_lowest P w K mg base A T
  obtain ⟨a, fd, F, m, bi⟩ := T.f_heaviest
  refine ⟨a, fd, _, fnS F sc_heaviest rfl (fun cdv A' outer sh H E hr => ⟨_, (pss_cons (ps_expr (pe_cx c_check_all hr (by omega) (by rfl) (passes_call (takes_of rfl rfl rfl rfl) (fun _ _ _ _ z => z)) (pa_cons (pv 0) (pa_cons (pv 1) (pa_cons (pv 2) pa_nil)))))
  (pss_cons (ps_asg (pe_cx c_best_set hr (by omega) (by rfl) (passes_call (takes_of rfl rfl rfl rfl) (fun _ _ _ _ z => z)) (pa_cons (pv 0) (pa_cons (pv 1) (pa_cons (pv 2) pa_nil)))) (pg_name (i := 3) sc_heaviest.nd rfl (by first | exact .inl rfl | exact .inr rfl)))
  (pss_cons (ps_if (pt_cmpR op_isK (pv 3) pe_non (nomark _))
  (pss_one (DX.ps_rs0 (takes_of rfl rfl rfl rfl) T.x_NoPoly hr))
  pss_nil)
  (pss_one (ps_ret (pe_tup (pa_cons (pe_cx c_lowest hr (by omega) (by rfl) (passes_call (takes_of rfl rfl rfl rfl) (fun _ _ _ _ z => z)) (pa_cons (pe_ix (DK.ix (K := K)) (pv 3) pe_int (fun _ _ => rfl)) (pa_cons (pe_callB (DK.sum (K := K)) (by rfl) T.z_sum (by decide +kernel) (pa_cons (pe_lc (own := [("number", 4), ("weight", 5)]) (g := (DK.gSq K 2 (gCons (gName 4) (gCons (gName 5) gNil)))) (tt := tYes) rfl sc_heaviest.nd (DK.pi_seq (K := K) (pv 2)) (blkOk_by (own := [("number", 4), ("weight", 5)]) (N := n_heaviest) (sc := (defScope s_heaviest)) (by first | decide +kernel | kernel_rfl)) (fun _ _ _ _ _ => (DK.pg_sq (K := K) rfl (pgs_cons (pg_name (i := 4) sc_heaviest.nd rfl (by first | exact .inl rfl | exact .inr rfl)) (pgs_cons (pg_name (i := 5) sc_heaviest.nd rfl (by first | exact .inl rfl | exact .inr rfl)) pgs_nil)))) (fun _ _ _ _ _ => pts_nil) (fun _ _ _ _ _ => (pv 5))) pa_nil)) pa_nil))) (pa_cons (pe_ix (DK.ix (K := K)) (pv 3) pe_int (fun _ _ => rfl)) pa_nil)))))))), fun R k0 ds b hp hl hE => ?_⟩), m, F.kp, bi⟩
  obtain ⟨o, ho⟩ := hp
  obtain ⟨⟨⟨p, d⟩, L⟩, rfl, ⟨h1, h2, cs, hc⟩, rfl⟩ := gOf_inv ho
  dsimp only at h1 h2 hc ho hl ⊢
  rw [hc.of] at ho
  have hx := xok_def hE
  have hX := xokW hx
  obtain ⟨l, sq, ei, hi, ll⟩ := hc.seq
  have few := hc.ok.few
  refine ws_seq (ws_drop (we_callF (X := fun _ _ _ _ => False) xok0 (wl_cons (we_var rfl (wl_cons (we_var rfl (wl_cons (we_var rfl (wl_nil (co_ret rfl (gAll_eq h1 h2 hc) ?_))))))))))
  refine ws_seq (ws_asg (we_callF (X := fun _ _ _ _ => False) xok0 (wl_cons (we_var rfl (wl_cons (we_var rfl (wl_cons (we_var rfl (wl_nil (co_ret rfl (gBest_eq h1 h2 hc) ?_))))))))))
  refine wg_nm (by rfl) ?_
  dsimp only [startD, List.map, List.append, List.replicate, List.set]
  unfold heavO at ho
  cases hb : bestO p d cs with
  | none =>
    rw [hb] at ho
    refine ws_seq (ws_if (wt_test (we_op (we_var rfl (we_non (rd_is ⟨true, rfl, fun _ => ?_, fun z => (nomatch z)⟩))))))
    exact DX.ws_rs hX (wl_nil ⟨rfl, ho, rfl⟩)
  | some x =>
    obtain ⟨W, ns⟩ := x
    rw [hb] at ho
    have w0 := bestO_pos (fun c h => (hc.ok.wt c h).1) hb
    obtain ⟨s1, s2⟩ := wsum_bd hc.ok
    refine ws_seq (ws_if (wt_test (we_op (we_var rfl (we_non (rd_is ⟨false, rfl, fun z => (nomatch z), fun _ => ?_⟩))))))
    refine ws_next ?_
    refine ws_ret (we_tup (wl_cons (we_callF (X := fun _ _ _ _ => False) xok0 (wl_cons (we_op (we_var rfl (we_int (rd_ix (l := [.int W, iL ns]) rfl (d := .int W) atI_0 ?_))))))))
    refine wl_cons (we_cb (wl_cons (we_lcM (kg_sq (kgs_cons (by decide) (kgs_cons (by decide) kgs_nil))) (wi_seqV rfl sq ?_))))
    refine ⟨fun d => match isPt d with | some c => D.int c.2 | none => .non, lt_size (by omega), fun x hx oo acc => ?_, ?_⟩
    · obtain ⟨c, hcm, ec⟩ := mem_pt hi hx
      refine wg_sq (pt_seq ec) rfl (wgs_cons (wg_nm (by rfl) (wgs_cons (wg_nm (by rfl) (wgs_nil ?_)))))
      dsimp only [List.set, wipeD]
      refine we_var rfl ⟨?_, rfl, rfl⟩
      rw [ec]
    rw [map_snd hi]
    refine wl_nil (rc_sum (wl_nil (co_ret rfl (gLow_eq w0 s1 s2) ?_)))
    refine wl_cons (we_op (we_var rfl (we_int (rd_ix (l := [.int W, iL ns]) rfl (d := iL ns) atI_1 (wl_nil (szB rfl ⟨ho, rfl⟩))))))
end
end K10

set_option Elab.async false
set_option linter.all false
set_option maxRecDepth 100000
set_option maxHeartbeats 4000000
namespace K10
open PySem PySem.Spec PyProof.Rows L2 DL
section
variable {P : Program} {w : World} {K : PySem.W.Frag} {mg : Str → Option Value} {base : Heap} {A : Ad}
local macro_rules | `(tactic| walk_at "s0") => `(tactic| with_reducible first
  | refine ws_seq ?_ | refine ws_next ?_ | refine ws_ret ?_ | refine ws_retN ?_ | refine ws_if ?_ | refine ws_asg ?_ | refine ws_drop ?_ | refine ws_par ?_ | refine ws_break ?_ | refine ws_cont ?_
  | refine we_var rfl ?_ | refine we_int ?_ | refine we_non ?_ | refine we_bl ?_ | refine we_str ?_ | refine we_ty ?_ | refine we_dnew ?_ | refine we_op ?_ | refine we_un ?_
  | refine we_and ?_ | refine we_or ?_ | refine we_not ?_ | refine we_if ?_ | refine we_chain ?_ | refine we_cb ?_ | refine we_tup ?_ | refine we_lst ?_
  | refine wl_cons ?_ | refine wl_nil ?_ | refine wt_B ?_ | refine wt_test ?_ | refine wt_and ?_ | refine wt_or ?_ | refine wt_not ?_ | refine wt_yes ?_
  | refine wi_tup ?_ | refine wi_list ?_ | refine wg_tup rfl ?_ | refine wgs_cons ?_ | refine wgs_nil ?_
  | refine rd_add_int ?_ | refine rd_sub ?_ | refine rd_lt ?_ | refine rd_le ?_ | refine rd_gt ?_ | refine rd_ge ?_ | refine rd_eq_int ?_ | refine rd_ne_int ?_ | refine rd_eq_str ?_ | refine rd_ne_str ?_ | refine rd_eq_bl ?_ | refine rd_ne_bl ?_ | refine rd_is ?_ | refine rd_is_bl ?_ | refine rd_isnot ?_ | refine ru_neg ?_
  | refine rc_int ?_ | refine rc_abs ?_ | refine rc_anyF ?_ | refine rc_allF ?_
  | refine brT ?_ | refine brF ?_ | refine brT' ?_ | refine brF' ?_
  | refine ⟨_, rfl, ?_⟩)
set_option hygiene false in
local macro_rules | `(tactic| walk_at "s1") => `(tactic| first
  | refine we_isiLT ?_ | refine we_isiILT ?_ | refine wi_seqV (by rfl) (by rfl) ?_ | walk_at "s0" | refine ⟨true, by rfl, ?_⟩ | refine ⟨false, by rfl, ?_⟩ | refine we_ref ?_ | refine we_fld1 ?_ | refine ⟨_, _, _, _, rfl, T.n_Poly_prime, by rfl, ?_⟩ | refine ⟨_, _, _, _, rfl, T.n_Poly_row, by rfl, ?_⟩ | refine rc_isiB (r := true) (by rfl) ?_ | refine rc_isiO T.k_Poly ?_ | refine rc_isiN T.k_Poly (by rfl) ?_ | refine we_callF (by assumption) ?_ | refine we_callF (X := fun _ _ _ _ => False) xok0 ?_ | refine we_callFl (by assumption) ?_ | refine we_callFl (X := fun _ _ _ _ => False) xok0 ?_ | refine we_makeFl (by assumption) ?_ | refine we_makeFl (X := fun _ _ _ _ => False) xok0 ?_ | refine we_makeF (by assumption) ?_ | refine we_makeF (X := fun _ _ _ _ => False) xok0 ?_ | refine DX.ws_rs (by assumption) ?_ | refine wt_test ?_ | refine co_ret rfl (by rfl) ?_ | refine wg_nm (by rfl) ?_ | refine parB (by rfl) (by rfl) ?_ | refine szB (by rfl) ?_ | refine szL (by rfl) ?_ | refine brT2 (by rfl) ?_ | refine brF2 (by rfl) ?_ | refine brT3 (by rfl) ?_ | refine brF3 (by rfl) ?_ | refine rc_isiB (r := false) (by rfl) ?_)
/-! a wrong polynomial -/
def invI2 (p m : Int) : Int := match invP p m with
  | some (.int v) => v
  | _ => 0
theorem gTurned_eq {p m : Int} (hp : isPrm p = true) (h0 : 0 < m) (h1 : m < p) : gTurned [.int p, .int m] = some (.ret (.int (invI2 p m))) ∧ (0 < invI2 p m ∧ invI2 p m < p) ∧ invI2 p m * m % p = 1 := by
  obtain ⟨p1, p2⟩ := prm_le hp
  obtain ⟨v, e, h2, h3, h4⟩ := inv_ok hp h0 h1
  have ev : invI2 p m = v := by unfold invI2; rw [e]
  rw [ev]
  refine ⟨?_, ⟨h2, h3⟩, h4⟩
  show (if 1 < p ∧ p ≤ 101 ∧ 0 ≤ m ∧ m ≤ 101 then (invP p m).map Out.ret else none) = _
  rw [if_pos ⟨by omega, p2, by omega, by omega⟩, e]
  rfl
def lowW (p : Int) (zs : List Int) : Int := worth p 0 (rootedP p zs)
def highW (p : Int) (zs : List Int) : Int := worth p 1 (rootedP p zs)
/-- the second factor -/
def facW (p : Int) (zs : List Int) (far : Int) : List Int :=
  if (lowW p zs + highW p zs) % p = 0 then [far * invI2 p (lowW p zs), -(far * invI2 p (lowW p zs))] else [far * invI2 p ((lowW p zs + highW p zs) % p)]
def rowW (p : Int) (zs : List Int) (far : Int) : List Int := bare p (mulP (rootedP p zs) (bare p (facW p zs far)))
/-- the product of the differences can be lengthened to a wrong one -/
def FitW (p : Int) (d : Nat) (zs : List Int) : Prop := zs.length ≤ d ∧ ((lowW p zs + highW p zs) % p = 0 → zs.length < d ∧ lowW p zs ≠ 0)
theorem worth_bd {p n : Int} (h : 0 < p) (r : List Int) : 0 ≤ worth p n r ∧ worth p n r < p := by
  rw [← worth_lt h r]
  exact ⟨Int.emod_nonneg _ (by omega), Int.emod_lt_of_pos _ h⟩
theorem rowW_len {p : Int} {d : Nat} {zs : List Int} {far : Int} (hp : isPrm p = true) (h : FitW p d zs) : (rowW p zs far).length ≤ d + 1 := by
  obtain ⟨h1, h2⟩ := h
  have rl := rooted_len hp zs
  have fl : (facW p zs far).length ≤ 2 := by
    unfold facW
    split <;> simp
  have bl : (bare p (facW p zs far)).length ≤ 2 := Nat.le_trans (bare_len _ _) fl
  refine bare_short fun k hk => ?_
  rw [mul2_getD bl]
  have z1 : (rootedP p zs).getD k 0 = 0 := getD_out (by omega)
  rw [z1, Int.zero_mul, Int.zero_add]
  by_cases hs : (lowW p zs + highW p zs) % p = 0
  · obtain ⟨h3, _⟩ := h2 hs
    have z2 : (0 :: rootedP p zs).getD k 0 = 0 := getD_out (by rw [List.length_cons]; omega)
    rw [z2, Int.zero_mul, Int.zero_emod]
  · have e : facW p zs far = [far * invI2 p ((lowW p zs + highW p zs) % p)] := if_neg hs
    have z2 : (bare p (facW p zs far)).getD 1 0 = 0 := by
      rw [e]
      exact getD_out (bare_len p [_])
    rw [z2, Int.mul_zero, Int.zero_emod]
def wrongO (A : Ad) (p : Int) (d : Nat) (cs : List (Int × Int)) (far : Int) : Out := match bestO p d cs with
  | none => .exc A.NoPoly [] []
  | some x => .ret (iL (padL (d + 1) (rowW p x.2 far)))
abbrev wrA (x : ((Int × Nat) × D) × Int) : List D := [.int x.1.1.1, .int (x.1.1.2 : Int), x.1.2, .int x.2]
def wrOk (x : ((Int × Nat) × D) × Int) : Prop := isPrm x.1.1.1 = true ∧ x.1.1.2 ≤ 20 ∧ (∃ cs, CnsL x.1.1.1 x.1.2 cs) ∧ x.2 % x.1.1.1 ≠ 0 ∧ (-1000000 ≤ x.2 ∧ x.2 ≤ 1000000) ∧ ∀ W ns, bestO x.1.1.1 x.1.1.2 (cnsOf x.1.2) = some (W, ns) → FitW x.1.1.1 x.1.1.2 ns
theorem wr_inj (x y : ((Int × Nat) × D) × Int) (e : wrA x = wrA y) : x = y := by
  injection e with e1 e
  injection e with e2 e
  injection e with e3 e
  injection e with e4 _
  injection e1 with e1
  injection e2 with e2
  injection e4 with e4
  exact Prod.ext (Prod.ext (Prod.ext e1 (Int.ofNat.inj e2)) e3) e4
noncomputable def gWrong (A : Ad) : List D → Option Out := gOf wrA wrOk fun x => wrongO A x.1.1.1 x.1.1.2 (cnsOf x.1.2) x.2
theorem gWrong_eq {A : Ad} {p : Int} {d : Nat} {L : D} {cs : List (Int × Int)} {far : Int} (h1 : isPrm p = true) (h2 : d ≤ 20) (h3 : CnsL p L cs) (h4 : far % p ≠ 0) (h5 : -1000000 ≤ far ∧ far ≤ 1000000) (h6 : ∀ W ns, bestO p d cs = some (W, ns) → FitW p d ns) :
    gWrong A [.int p, .int (d : Int), L, .int far] = some (wrongO A p d cs far) := by
  have e := gOf_eq (ar := wrA) (ok := wrOk) (res := fun x => wrongO A x.1.1.1 x.1.1.2 (cnsOf x.1.2) x.2) (x := (((p, d), L), far)) wr_inj ⟨h1, h2, ⟨cs, h3⟩, h4, h5, by dsimp only; rw [h3.of]; exact h6⟩
  dsimp only at e
  rw [h3.of] at e
  exact e
theorem bestO_len {p : Int} {d : Nat} {cs : List (Int × Int)} {W : Int} {ns : List Int} (e : bestO p d cs = some (W, ns)) : ns.length ≤ d + 1 := by
  unfold bestO at e
  split at e
  · split at e <;> cases e
    simp
  · injection e with e
    injection e with _ e2
    rw [← e2, (sortI_spec _).1.length_eq, List.length_map]
    exact (topR_len p d _).1
inductive WF (p : Int) (d : Nat) (q : List Int) (A : Ad) (b : Nat) : Sta → Prop
  | mk {x2 x3 x4 x5 x6 x7 x8 x10 : Option D} : WF p d q A b { δ := [some (.int p), some (.int (d : Int)), x2, x3, x4, x5, x6, x7, x8, some (poly A p q), x10], m := [], b := b }
theorem ok_wrong (T : Tx P K mg A) : CalX P w K mg base 9 "wrong" (SpS K 4 (spcF (gWrong A))) := by
  have c_check_all := @ok_check_all P w K mg base A T
  have c_is_integer := @ok_is_integer P w K mg base A T
  have c_best_set := @ok_best_set P w K mg base A T
  have c_rooted := @ok_rooted P w K mg base A T
  have c_turned := @ok_turned P w K mg base A T
  have c_Poly := @ok_Poly P w K mg base A T
  have c_Poly_at := @ok_at P w K mg base A T
  have c_Poly___mul__ := @ok_mul P w K mg base A T
  have c_Poly_numbers := @ok_numbers P w K mg base A T
  obtain ⟨a, fd, F, m, bi⟩ := T.f_wrong
  refine ⟨a, fd, _, fnS F sc_wrong rfl (fun cdv A' outer sh H E hr => ⟨_, (pss_cons (ps_expr (pe_cx c_check_all hr (by omega) (by rfl) (passes_call (takes_of rfl rfl rfl rfl) (fun _ _ _ _ z => z)) (pa_cons (pv 0) (pa_cons (pv 1) (pa_cons (pv 2) pa_nil)))))
  (pss_cons (ps_if (PW.pt (pw_or (pt_not (pt_val (pe_cx c_is_integer hr (by omega) (by rfl) (passes_call (takes_of rfl rfl rfl rfl) (fun _ _ _ _ z => z)) (pa_cons (pv 3) pa_nil)))) (pw_or1 (pt_cmpR (DK.op_eq (K := K) (hr.units)) (pe_op op_modK (pv 3) (pv 0)) pe_int (nomark _)))))
  (pss_one (DX.ps_rs (takes_of rfl rfl rfl rfl) T.x_BadNumber (by decide) (by decide) hr (pa_cons (pv 3) pa_nil)))
  pss_nil)
  (pss_cons (ps_asg (pe_cx c_best_set hr (by omega) (by rfl) (passes_call (takes_of rfl rfl rfl rfl) (fun _ _ _ _ z => z)) (pa_cons (pv 0) (pa_cons (pv 1) (pa_cons (pv 2) pa_nil)))) (pg_name (i := 4) sc_wrong.nd rfl (by first | exact .inl rfl | exact .inr rfl)))
  (pss_cons (ps_if (pt_cmpR op_isK (pv 4) pe_non (nomark _))
  (pss_one (DX.ps_rs0 (takes_of rfl rfl rfl rfl) T.x_NoPoly hr))
  pss_nil)
  (pss_cons (ps_asg (pe_cx c_rooted hr (by omega) (by rfl) (passes_call (takes_of rfl rfl rfl rfl) (fun _ _ _ _ z => z)) (pa_cons (pv 0) (pa_cons (pe_ix (DK.ix (K := K)) (pv 4) pe_int (fun _ _ => rfl)) pa_nil))) (pg_name (i := 5) sc_wrong.nd rfl (by first | exact .inl rfl | exact .inr rfl)))
  (pss_cons (ps_par (by rfl) sc_wrong.nd (i := 7) (j := 8) rfl rfl (by decide) rfl rfl (pa_cons (pe_mtx (pv 5) c_Poly_at hr (by omega) (passes_call (takes_of rfl rfl rfl rfl) (fun _ _ _ _ z => z)) (pa_cons pe_int pa_nil)) (pa_cons (pe_mtx (pv 5) c_Poly_at hr (by omega) (passes_call (takes_of rfl rfl rfl rfl) (fun _ _ _ _ z => z)) (pa_cons pe_int pa_nil)) pa_nil)) (by rfl))
  (pss_cons (ps_if (pt_cmpR (DK.op_ne (K := K) (hr.units)) (pe_op op_modK (pe_op (DK.op_add (K := K)) (pv 7) (pv 8)) (pv 0)) pe_int (nomark _))
  (pss_one (ps_asg (pe_op (DK.op_binI (nm := "__mul__") rfl c_Poly___mul__ (T.k_Poly).sf hr (by omega) (passes_call (takes_of rfl rfl rfl rfl) (fun _ _ _ _ z => z))) (pv 5) (pe_mkx c_Poly hr (by omega) (by rfl) (passes_call (takes_of rfl rfl rfl rfl) (fun _ _ _ _ z => z)) (pa_cons (pv 0) (pa_cons (pe_lst (pa_cons (pe_op op_mulK (pv 3) (pe_cx c_turned hr (by omega) (by rfl) (passes_call (takes_of rfl rfl rfl rfl) (fun _ _ _ _ z => z)) (pa_cons (pv 0) (pa_cons (pe_op op_modK (pe_op (DK.op_add (K := K)) (pv 7) (pv 8)) (pv 0)) pa_nil)))) pa_nil)) pa_nil)))) (pg_name (i := 9) sc_wrong.nd rfl (by first | exact .inl rfl | exact .inr rfl))))
  (pss_one (ps_if (pt_cmpR (DK.op_ne (K := K) (hr.units)) (pv 7) pe_int (nomark _))
  (pss_cons (ps_asg (pe_op op_mulK (pv 3) (pe_cx c_turned hr (by omega) (by rfl) (passes_call (takes_of rfl rfl rfl rfl) (fun _ _ _ _ z => z)) (pa_cons (pv 0) (pa_cons (pv 7) pa_nil)))) (pg_name (i := 10) sc_wrong.nd rfl (by first | exact .inl rfl | exact .inr rfl)))
  (pss_one (ps_asg (pe_op (DK.op_binI (nm := "__mul__") rfl c_Poly___mul__ (T.k_Poly).sf hr (by omega) (passes_call (takes_of rfl rfl rfl rfl) (fun _ _ _ _ z => z))) (pv 5) (pe_mkx c_Poly hr (by omega) (by rfl) (passes_call (takes_of rfl rfl rfl rfl) (fun _ _ _ _ z => z)) (pa_cons (pv 0) (pa_cons (pe_lst (pa_cons (pv 10) (pa_cons (pe_un un_negK (pv 10)) pa_nil))) pa_nil)))) (pg_name (i := 9) sc_wrong.nd rfl (by first | exact .inl rfl | exact .inr rfl)))))
  (pss_one (ps_asg (pe_op (DK.op_binI (nm := "__mul__") rfl c_Poly___mul__ (T.k_Poly).sf hr (by omega) (passes_call (takes_of rfl rfl rfl rfl) (fun _ _ _ _ z => z))) (pv 5) (pe_mkx c_Poly hr (by omega) (by rfl) (passes_call (takes_of rfl rfl rfl rfl) (fun _ _ _ _ z => z)) (pa_cons (pv 0) (pa_cons (pe_lst (pa_cons pe_int (pa_cons (pe_op op_mulK (pv 3) (pe_cx c_turned hr (by omega) (by rfl) (passes_call (takes_of rfl rfl rfl rfl) (fun _ _ _ _ z => z)) (pa_cons (pv 0) (pa_cons (pv 8) pa_nil)))) pa_nil))) pa_nil)))) (pg_name (i := 9) sc_wrong.nd rfl (by first | exact .inl rfl | exact .inr rfl)))))))
  (pss_cons (ps_asg (pe_mtx0 (pv 9) c_Poly_numbers hr (by omega) (passes_call (takes_of rfl rfl rfl rfl) (fun _ _ _ _ z => z))) (pg_name (i := 6) sc_wrong.nd rfl (by first | exact .inl rfl | exact .inr rfl)))
  (pss_one (ps_ret (pe_op (DK.op_add (K := K)) (pv 6) (pe_op op_mulK (pe_lst (pa_cons pe_int pa_nil)) (pe_op op_subK (pe_op (DK.op_add (K := K)) (pv 1) pe_int) (pe_callB (DK.len (K := K)) (by rfl) T.z_len (by decide +kernel) (pa_cons (pv 6) pa_nil))))))))))))))), fun R k0 ds b hp hl hE => ?_⟩), m, F.kp, bi⟩
  obtain ⟨o, ho⟩ := hp
  obtain ⟨⟨⟨⟨p, d⟩, L⟩, far⟩, rfl, ⟨h1, h2, ⟨cs, hc⟩, h4, h5, h6⟩, rfl⟩ := gOf_inv ho
  dsimp only at h1 h2 hc h4 h5 h6 ho hl ⊢
  rw [hc.of] at ho h6
  obtain ⟨p1, p2⟩ := prm_le h1
  have hx := xok_def hE
  have hX := xokW hx
  refine ws_seq (ws_drop (we_callF (X := fun _ _ _ _ => False) xok0 (wl_cons (we_var rfl (wl_cons (we_var rfl (wl_cons (we_var rfl (wl_nil (co_ret rfl (gAll_eq h1 h2 hc) ?_))))))))))
  refine ws_seq (ws_if (wt_or (wt_not (wt_B (we_callF (X := fun _ _ _ _ => False) xok0 (wl_cons (we_var rfl (wl_nil (co_ret rfl (gIsInt_eq rfl) ?_)))))))))
  refine ⟨true, rfl, ?_⟩
  refine ⟨fun _ => ?_, fun z => (nomatch z)⟩
  refine wt_test (we_op (we_op (we_var rfl (we_var rfl (rd_mod (by show 0 < p; omega) (we_int (rd_eq_int ⟨_, rfl, fun z => ?_, fun _ => ?_⟩)))))))
  · exact absurd (of_decide_eq_true z) h4
  refine ws_next ?_
  refine ws_seq (ws_asg (we_callF (X := fun _ _ _ _ => False) xok0 (wl_cons (we_var rfl (wl_cons (we_var rfl (wl_cons (we_var rfl (wl_nil (co_ret rfl (gBest_eq h1 h2 hc) ?_))))))))))
  refine wg_nm (by rfl) ?_
  dsimp only [startD, List.map, List.append, List.replicate, List.set]
  unfold wrongO at ho
  cases hb : bestO p d cs with
  | none =>
    rw [hb] at ho
    refine ws_seq (ws_if (wt_test (we_op (we_var rfl (we_non (rd_is ⟨true, rfl, fun _ => ?_, fun z => (nomatch z)⟩))))))
    exact DX.ws_rs hX (wl_nil ⟨rfl, ho, rfl⟩)
  | some x =>
  obtain ⟨W, zs⟩ := x
  rw [hb] at ho
  have fit := h6 W zs hb
  have zl := bestO_len hb
  have len := rowW_len (far := far) h1 fit
  dsimp only at ho
  obtain ⟨_, fit2⟩ := fit
  refine ws_seq (ws_if (wt_test (we_op (we_var rfl (we_non (rd_is ⟨false, rfl, fun z => (nomatch z), fun _ => ?_⟩))))))
  refine ws_next ?_
  have rl := rooted_len h1 zs
  refine ws_seq (ws_asg (we_callFl (X := fun _ _ _ _ => False) xok0 (wl_cons (we_var rfl (wl_cons (we_op (we_var rfl (we_int (rd_ix (l := [.int W, iL zs]) rfl (d := iL zs) atI_1 (wl_nil (co_ret rfl (gRooted_eq h1 (by omega)) ?_)))))))))))
  refine wg_nm (by rfl) ?_
  dsimp only [List.set]
  have at_ := fun n => gAt_int (A := A) (p := p) (n := n) (r := rootedP p zs) h1 (by omega)
  have sm := rooted_small h1 zs
  have e0 : worth p 0 (rootedP p zs) = lowW p zs := rfl
  have e1 : worth p 1 (rootedP p zs) = highW p zs := rfl
  obtain ⟨l0, l1⟩ := worth_bd (p := p) (n := 0) (by omega) (rootedP p zs)
  obtain ⟨g0, g1⟩ := worth_bd (p := p) (n := 1) (by omega) (rootedP p zs)
  have at0 := at_ 0
  have at1 := at_ 1
  rw [e0] at at0 l0 l1
  rw [e1] at at1 g0 g1
  have er : ∀ q : List Int, q = facW p zs far → bare p (mulP (rootedP p zs) (bare p q)) = rowW p zs far := fun q e => by rw [e]; rfl
  have hf : facW p zs far = if (lowW p zs + highW p zs) % p = 0 then [far * invI2 p (lowW p zs), -(far * invI2 p (lowW p zs))] else [far * invI2 p ((lowW p zs + highW p zs) % p)] := rfl
  have gm : ∀ q : List Int, q.length ≤ 10 → gMul A [poly A p (rootedP p zs), poly A p q] = some (.ret (poly A p (bare p (mulP (rootedP p zs) q)))) := fun q hq => by
    rw [gMul_eq h1 sm (by omega) (by omega), if_pos rfl]
  refine ws_seq (ws_par (wl_cons (we_methF (X := fun _ _ _ _ => False) xok0 (we_var rfl ⟨_, _, rfl, by decide, wl_cons (we_int (wl_nil (co_ret rfl at0 ?_)))⟩))))
  refine wl_cons (we_methF (X := fun _ _ _ _ => False) xok0 (we_var rfl ⟨_, _, rfl, by decide, wl_cons (we_int (wl_nil (co_ret rfl at1 ?_)))⟩))
  refine wl_nil (parB (by rfl) (by rfl) ?_)
  dsimp only [List.set]
  refine ws_cut (WF p d (rowW p zs far) A b) ?_ ?_
  · refine ws_if (wt_test (we_op (we_op (we_op (we_var rfl (we_var rfl (rd_add_int (we_var rfl (rd_mod (by omega) (we_int (rd_ne_int ⟨_, rfl, fun hz => ?_, fun hz => ?_⟩)))))))))))
    · have hz : ¬ (lowW p zs + highW p zs) % p = 0 := by simpa using hz
      have m0 := Int.emod_nonneg (lowW p zs + highW p zs) (show p ≠ 0 by omega)
      have m1 := Int.emod_lt_of_pos (lowW p zs + highW p zs) (show 0 < p by omega)
      obtain ⟨gt, ⟨i0, i1⟩, _⟩ := gTurned_eq h1 (show 0 < (lowW p zs + highW p zs) % p by omega) m1
      rw [if_neg hz] at hf
      refine ws_asg (we_binIF (X := fun _ _ _ _ => False) xok0 (we_var rfl (we_makeFl (X := fun _ _ _ _ => False) xok0 (wl_cons (we_var rfl (wl_cons (we_lst (wl_cons ?_))))))))
      refine we_op (we_var rfl (we_callF (X := fun _ _ _ _ => False) xok0 (wl_cons (we_var rfl (wl_cons (we_op (we_op (we_var rfl (we_var rfl (rd_add_int (we_var rfl (rd_mod (by omega) (wl_nil (co_ret rfl gt ?_))))))))))))))
      refine rd_mul (.inl ⟨by omega, by omega⟩) (wl_nil (szB rfl (wl_nil (mk_ok rfl (gPoly_ok (xs := [far * invI2 p ((lowW p zs + highW p zs) % p)]) h1 (by show 1 ≤ 1000; decide)) ?_))))
      refine ⟨_, _, _, _, _, rfl, rfl, gm _ (Nat.le_trans (bare_len _ _) (by show 1 ≤ 10; decide)), .ret ?_⟩
      rw [er _ hf.symm]
      refine wg_nm (by rfl) ?_
      dsimp only [List.set]
      exact .mk
    · have hz : (lowW p zs + highW p zs) % p = 0 := by simpa using hz
      obtain ⟨_, nz⟩ := fit2 hz
      rw [if_pos hz] at hf
      obtain ⟨gt, ⟨i0, i1⟩, _⟩ := gTurned_eq h1 (show 0 < lowW p zs by omega) l1
      refine ws_if (wt_test (we_op (we_var rfl (we_int (rd_ne_int ⟨_, rfl, fun _ => ?_, fun z => ?_⟩)))))
      rotate_left
      · exact absurd (show lowW p zs = 0 by simpa using z) nz
      refine ws_seq (ws_asg (we_op (we_var rfl (we_callF (X := fun _ _ _ _ => False) xok0 (wl_cons (we_var rfl (wl_cons (we_var rfl (wl_nil (co_ret rfl gt ?_))))))))))
      refine rd_mul (.inl ⟨by omega, by omega⟩) (wg_nm (by rfl) ?_)
      dsimp only [List.set]
      refine ws_asg (we_binIF (X := fun _ _ _ _ => False) xok0 (we_var rfl (we_makeFl (X := fun _ _ _ _ => False) xok0 (wl_cons (we_var rfl (wl_cons (we_lst (wl_cons (we_var rfl (wl_cons (we_un (we_var rfl (ru_neg ?_)))))))))))))
      refine wl_nil (szB rfl (wl_nil (mk_ok rfl (gPoly_ok (xs := [far * invI2 p (lowW p zs), -(far * invI2 p (lowW p zs))]) h1 (by show 2 ≤ 1000; decide)) ?_)))
      refine ⟨_, _, _, _, _, rfl, rfl, gm _ (Nat.le_trans (bare_len _ _) (by show 2 ≤ 10; decide)), .ret ?_⟩
      rw [er _ hf.symm]
      refine wg_nm (by rfl) ?_
      dsimp only [List.set]
      exact .mk
  rintro ς ⟨⟩
  refine ws_seq (ws_asg (we_newD (we_var rfl ⟨_, _, _, rfl, by decide, rfl, ?_⟩)))
  refine wg_nm (by rfl) ?_
  dsimp only [List.set]
  refine ws_ret (we_op (we_var rfl (we_op (we_lst (wl_cons (we_int (wl_nil (szB rfl ?_))))))))
  refine we_op (we_op (we_var rfl (we_int (rd_add_int (we_cb (wl_cons (we_var rfl (wl_nil (rc_lenI (rd_sub ?_))))))))))
  refine rd_rep (by omega) (by omega) (by rw [sizeLine_eq]; show 1 * _ ≤ _; omega) ?_
  have e9 : ((d : Int) + 1) = ((d + 1 : Nat) : Int) := by omega
  rw [e9]
  refine rd_pad (by omega) len ⟨ho, rfl⟩
end
end K10

set_option Elab.async false
set_option linter.all false
set_option maxRecDepth 100000
set_option maxHeartbeats 4000000
namespace K10
open PySem PySem.Spec PyProof.Rows L2 DL
/-! the heaviest sets, plain laws -/
def sumF (l : List (Int × Int)) : Int := (l.map (·.1)).sum
theorem sumF_nil : sumF [] = 0 := rfl
theorem sumF_cons (x : Int × Int) (l : List (Int × Int)) : sumF (x :: l) = x.1 + sumF l := by
  unfold sumF
  rw [List.map_cons, List.sum_cons]
theorem sumF_app (l m : List (Int × Int)) : sumF (l ++ m) = sumF l + sumF m := by
  unfold sumF
  rw [List.map_append, List.sum_append]
theorem sumF_perm {l m : List (Int × Int)} (h : l.Perm m) : sumF l = sumF m := by
  induction h with
  | nil => rfl
  | cons x _ ih => rw [sumF_cons, sumF_cons, ih]
  | swap x y l => rw [sumF_cons, sumF_cons, sumF_cons, sumF_cons]; omega
  | trans _ _ h1 h2 => exact h1.trans h2
/-- in order by weight, none above 0 -/
structure Desc (C : List (Int × Int)) : Prop where
  ord : C.Pairwise fun x y => x.1 ≤ y.1
  neg : ∀ x ∈ C, x.1 ≤ 0
theorem Desc.tail {a : Int × Int} {l : List (Int × Int)} (h : Desc (a :: l)) : Desc l := ⟨(List.pairwise_cons.mp h.ord).2, fun x hx => h.neg x (List.mem_cons_of_mem _ hx)⟩
theorem one_le {a : Int × Int} {l : List (Int × Int)} (h : Desc (a :: l)) (k : Nat) : a.1 ≤ sumF ((l.drop k).take 1) := by
  cases e : l.drop k with
  | nil => exact h.neg a List.mem_cons_self
  | cons y m =>
    have hy : y ∈ l := List.mem_of_mem_drop (i := k) (by rw [e]; exact List.mem_cons_self)
    have := (List.pairwise_cons.mp h.ord).1 y hy
    show a.1 ≤ sumF [y]
    rw [sumF_cons, sumF_nil]
    omega
theorem take_step (l : List (Int × Int)) (k : Nat) : sumF (l.take (k + 1)) = sumF (l.take k) + sumF ((l.drop k).take 1) := by
  rw [← sumF_app, ← List.take_add]
/-- the first ones weigh most -/
theorem top_le {C X : List (Int × Int)} (s : X.Sublist C) : Desc C → ∀ d, X.length ≤ d → sumF (C.take d) ≤ sumF X := by
  induction s with
  | slnil => intro _ d _; rw [List.take_nil]; exact Int.le_refl _
  | @cons X l a s ih =>
    intro h d hd
    cases d with
    | zero =>
      have e : X = [] := List.length_eq_zero_iff.mp (by omega)
      rw [e]
      exact Int.le_refl _
    | succ e =>
      have := ih h.tail (e + 1) hd
      have st := take_step l e
      have ol := one_le h e
      rw [List.take_succ_cons, sumF_cons]
      omega
  | @cons_cons X l a s ih =>
    intro h d hd
    cases d with
    | zero => simp at hd
    | succ e =>
      have := ih h.tail e (by simpa using hd)
      rw [List.take_succ_cons, sumF_cons, sumF_cons]
      omega
/-- the best ones but the first -/
theorem top2_le {C X : List (Int × Int)} (s : X.Sublist C) : Desc C → ∀ e, X.length ≤ e + 1 → X ≠ C.take (e + 1) → sumF (C.take e) + sumF ((C.drop (e + 1)).take 1) ≤ sumF X := by
  induction s with
  | slnil => intro _ e _ h; exact absurd List.take_nil.symm h
  | @cons X l a s ih =>
    intro h e hd _
    have t := top_le s h.tail (e + 1) hd
    rw [List.drop_succ_cons]
    cases e with
    | zero =>
      have st := take_step l 0
      have z : l.drop 0 = l := rfl
      rw [List.take_zero, sumF_nil] at st ⊢
      omega
    | succ k =>
      have s1 := take_step l (k + 1)
      have s2 := take_step l k
      have ol := one_le h k
      rw [List.take_succ_cons, sumF_cons]
      omega
  | @cons_cons X l a s ih =>
    intro h e hd hne
    rw [List.drop_succ_cons, sumF_cons]
    cases e with
    | zero =>
      have z : X = [] := List.length_eq_zero_iff.mp (by simpa using hd)
      subst z
      exact absurd rfl hne
    | succ k =>
      have := ih h.tail k (by simpa using hd) fun z => hne (by rw [List.take_succ_cons, z])
      rw [List.take_succ_cons, sumF_cons]
      omega
/-! products of differences -/
def lowF (p : Int) (zs : List Int) : Int := zs.foldl (fun f z => f * (0 - z) % p) 1
def highF (p : Int) (zs : List Int) : Int := zs.foldl (fun f z => f * (1 - z) % p) 1
def fitsB (p : Int) (d : Nat) (zs : List Int) : Bool := !decide ((lowF p zs + highF p zs) % p = 0) || (decide (zs.length < d) && (!decide (lowF p zs = 0) || !decide (highF p zs = 0)))
theorem foldF {p n : Int} (hp : 1 < p) (zs : List Int) : zs.foldl (fun f z => f * (n - z) % p) 1 = prodR n zs % p := by
  have gen : ∀ (zs : List Int) (f g : Int), f = g % p → zs.foldl (fun f z => f * (n - z) % p) f = (zs.foldl (fun f z => f * (n - z)) g) % p := fun zs => by
    induction zs with
    | nil => intro f g h; exact h
    | cons z zs ih =>
      intro f g h
      refine ih _ _ ?_
      rw [h]
      exact ((Cong.mod p g).mul (Cong.refl p _)).eq
  exact gen zs 1 1 (Int.emod_eq_of_lt (by omega) hp).symm
theorem lowW_eq {p : Int} (hp : 1 < p) (zs : List Int) : lowW p zs = prodR 0 zs % p := by
  unfold lowW
  rw [← worth_lt (by omega), ((worth_ev _).trans (rooted_ev hp zs)).eq]
theorem highW_eq {p : Int} (hp : 1 < p) (zs : List Int) : highW p zs = prodR 1 zs % p := by
  unfold highW
  rw [← worth_lt (by omega), ((worth_ev _).trans (rooted_ev hp zs)).eq]
theorem prodR_app (n : Int) (l m : List Int) : prodR n (l ++ m) = prodR n l * prodR n m := by
  have gen : ∀ (m : List Int) (f : Int), m.foldl (fun f x => f * (n - x)) f = f * m.foldl (fun f x => f * (n - x)) 1 := fun m => by
    induction m with
    | nil => intro f; exact (Int.mul_one f).symm
    | cons x m ih =>
      intro f
      show m.foldl _ (f * (n - x)) = f * m.foldl _ (1 * (n - x))
      rw [ih, ih (1 * (n - x)), Int.one_mul, Int.mul_assoc]
  unfold prodR
  rw [List.foldl_append, gen m]
theorem prodR_cons (n x : Int) (l : List Int) : prodR n (x :: l) = (n - x) * prodR n l := by
  have e := prodR_app n [x] l
  have e2 : prodR n [x] = n - x := by
    show 1 * (n - x) = _
    rw [Int.one_mul]
  rw [e2] at e
  exact e
theorem prodR_perm {n : Int} {l m : List Int} (h : l.Perm m) : prodR n l = prodR n m := by
  induction h with
  | nil => rfl
  | cons x _ ih => rw [prodR_cons, prodR_cons, ih]
  | swap x y l => rw [prodR_cons, prodR_cons, prodR_cons, prodR_cons, ← Int.mul_assoc, ← Int.mul_assoc, Int.mul_comm (n - x)]
  | trans _ _ h1 h2 => exact h1.trans h2
/-- the sum of the products at 0 and 1 -/
def bothR (p : Int) (zs : List Int) : Int := (prodR 0 zs + prodR 1 zs) % p
theorem bothW {p : Int} (hp : 1 < p) (zs : List Int) : (lowW p zs + highW p zs) % p = bothR p zs := by
  rw [lowW_eq hp, highW_eq hp]
  exact ((Cong.mod p _).add (Cong.mod p _)).eq
theorem bothF {p : Int} (hp : 1 < p) (zs : List Int) : (lowF p zs + highF p zs) % p = bothR p zs := by
  unfold lowF highF
  rw [foldF hp, foldF hp]
  exact ((Cong.mod p _).add (Cong.mod p _)).eq
theorem bothR_perm {p : Int} {l m : List Int} (h : l.Perm m) : bothR p l = bothR p m := by
  unfold bothR
  rw [prodR_perm h, prodR_perm h]
theorem shut_eq {p : Int} (hp : 1 < p) (zs : List Int) : shutB p zs = decide (bothR p zs = 0) := by
  unfold shutB
  have e : (worth p 0 (rootedP p zs) + worth p 1 (rootedP p zs)) % p = bothR p zs := bothW hp zs
  rw [e]
/-- remainders -/
def Res (p : Int) (zs : List Int) : Prop := ∀ z ∈ zs, 0 ≤ z ∧ z < p
theorem low_zero {p : Int} (hp : isPrm p = true) {zs : List Int} (h : Res p zs) : prodR 0 zs % p = 0 ↔ 0 ∈ zs := by
  obtain ⟨p1, p2⟩ := prm_le hp
  constructor
  · intro e
    apply Classical.byContradiction
    intro n
    refine prodR_ne hp (fun x hx e2 => ?_) e
    obtain ⟨a, b⟩ := h x hx
    rw [Int.emod_eq_of_lt (by omega) (by omega), Int.emod_eq_of_lt a b] at e2
    exact n (by rw [e2]; exact hx)
  · intro h
    have z := (prodR_zero (p := p) (n := 0) h rfl).eq
    rw [Int.zero_emod] at z
    exact z
theorem high_zero {p : Int} (hp : isPrm p = true) {zs : List Int} (h : Res p zs) : prodR 1 zs % p = 0 ↔ 1 ∈ zs := by
  obtain ⟨p1, p2⟩ := prm_le hp
  constructor
  · intro e
    apply Classical.byContradiction
    intro n
    refine prodR_ne hp (fun x hx e2 => ?_) e
    obtain ⟨a, b⟩ := h x hx
    rw [Int.emod_eq_of_lt (by omega) (by omega), Int.emod_eq_of_lt a b] at e2
    exact n (by rw [e2]; exact hx)
  · intro h
    have z := (prodR_zero (p := p) (n := 1) h rfl).eq
    rw [Int.zero_emod] at z
    exact z
theorem both_split {p : Int} (zs : List Int) : bothR p zs = (prodR 0 zs % p + prodR 1 zs % p) % p := (((Cong.mod p _).add (Cong.mod p _)).symm).eq
/-- where both are 0 together -/
theorem both_low {p : Int} (hp : isPrm p = true) {zs : List Int} (h : bothR p zs = 0) (hz : prodR 0 zs % p = 0) : prodR 1 zs % p = 0 := by
  obtain ⟨p1, p2⟩ := prm_le hp
  rw [both_split, hz, Int.zero_add, Int.emod_emod] at h
  exact h
theorem both_high {p : Int} (hp : isPrm p = true) {zs : List Int} (h : bothR p zs = 0) (hz : prodR 1 zs % p = 0) : prodR 0 zs % p = 0 := by
  obtain ⟨p1, p2⟩ := prm_le hp
  rw [both_split, hz, Int.add_zero, Int.emod_emod] at h
  exact h
/-- a set that is shut has neither 0 nor 1, unless both -/
theorem shut_out {p : Int} (hp : isPrm p = true) {zs : List Int} (h : Res p zs) (hn : ¬ (0 ∈ zs ∧ 1 ∈ zs)) (hs : bothR p zs = 0) : 0 ∉ zs ∧ 1 ∉ zs := by
  constructor
  · intro h0
    exact hn ⟨h0, (high_zero hp h).mp (both_low hp hs ((low_zero hp h).mpr h0))⟩
  · intro h1
    exact hn ⟨(low_zero hp h).mp (both_high hp hs ((high_zero hp h).mpr h1)), h1⟩
/-- of two numbers, one alone can shut a set -/
theorem shut_one {p : Int} (hp : isPrm p = true) {zs : List Int} {a c : Int} (h : Res p zs) (hn : ¬ (0 ∈ zs ∧ 1 ∈ zs)) (ha : 0 ≤ a ∧ a < p) (hc : 0 ≤ c ∧ c < p) (hac : a ≠ c) (h1 : bothR p (zs ++ [a]) = 0) : bothR p (zs ++ [c]) ≠ 0 := fun h2 => by
  obtain ⟨p1, p2⟩ := prm_le hp
  have e : ∀ x, prodR 0 (zs ++ [x]) + prodR 1 (zs ++ [x]) = prodR 1 zs - x * (prodR 0 zs + prodR 1 zs) := fun x => by
    rw [prodR_app, prodR_app]
    show prodR 0 zs * (1 * (0 - x)) + prodR 1 zs * (1 * (1 - x)) = _
    grind
  unfold bothR at h1 h2
  rw [e] at h1 h2
  have c1 : Cong p (prodR 1 zs - a * (prodR 0 zs + prodR 1 zs)) 0 := .of_mod (by rw [h1, Int.zero_emod])
  have c2 : Cong p (prodR 1 zs - c * (prodR 0 zs + prodR 1 zs)) 0 := .of_mod (by rw [h2, Int.zero_emod])
  have c3 := c1.sub c2
  have e3 : prodR 1 zs - a * (prodR 0 zs + prodR 1 zs) - (prodR 1 zs - c * (prodR 0 zs + prodR 1 zs)) = (c - a) * (prodR 0 zs + prodR 1 zs) := by grind
  rw [e3, Int.sub_self] at c3
  have nz : (c - a) % p ≠ 0 := fun z => by
    have q : Cong p (c - a) 0 := .of_mod (by rw [z, Int.zero_emod])
    have q2 := q.add (Cong.refl p a)
    have e4 : c - a + a = c := by omega
    rw [e4, Int.zero_add] at q2
    have := q2.eq
    rw [Int.emod_eq_of_lt hc.1 hc.2, Int.emod_eq_of_lt ha.1 ha.2] at this
    exact hac this.symm
  have c4 := cancel hp c3 nz
  have s0 : bothR p zs = 0 := by
    have := c4.eq
    rw [Int.zero_emod] at this
    exact this
  have c5 : Cong p (prodR 1 zs) 0 := by
    have q := c1.add ((Cong.refl p a).mul c4)
    rw [Int.mul_zero] at q
    have e5 : prodR 1 zs - a * (prodR 0 zs + prodR 1 zs) + a * (prodR 0 zs + prodR 1 zs) = prodR 1 zs := by omega
    rw [e5] at q
    exact q
  have z1 : prodR 1 zs % p = 0 := by
    have := c5.eq
    rw [Int.zero_emod] at this
    exact this
  exact hn ⟨(low_zero hp h).mp (both_high hp s0 z1), (high_zero hp h).mp z1⟩
/-- a set of numbers at which a wrong polynomial can be 0 -/
def Fit (p : Int) (d : Nat) (zs : List Int) : Prop := bothR p zs ≠ 0 ∨ (zs.length < d ∧ ¬ (0 ∈ zs ∧ 1 ∈ zs))
theorem fits_eq {p : Int} (hp : isPrm p = true) {d : Nat} {zs : List Int} (h : Res p zs) : fitsB p d zs = true ↔ Fit p d zs := by
  obtain ⟨p1, p2⟩ := prm_le hp
  have e0 : lowF p zs = 0 ↔ 0 ∈ zs := by unfold lowF; rw [foldF (by omega)]; exact low_zero hp h
  have e1 : highF p zs = 0 ↔ 1 ∈ zs := by unfold highF; rw [foldF (by omega)]; exact high_zero hp h
  unfold fitsB Fit
  rw [bothF (by omega)]
  simp only [Bool.or_eq_true, Bool.and_eq_true, Bool.not_eq_true', decide_eq_false_iff_not, decide_eq_true_eq, e0, e1]
  constructor
  · rintro (h | ⟨h, g⟩)
    · exact .inl h
    · exact .inr ⟨h, fun z => g.elim (fun g => g z.1) fun g => g z.2⟩
  · rintro (h | ⟨h, g⟩)
    · exact .inl h
    · refine .inr ⟨h, ?_⟩
      by_cases z : 0 ∈ zs
      · exact .inr fun y => g ⟨z, y⟩
      · exact .inl z
theorem Fit.both {p : Int} (hp : isPrm p = true) {d : Nat} {zs : List Int} (h : Res p zs) (f : Fit p d zs) : ¬ (0 ∈ zs ∧ 1 ∈ zs) := fun z => by
  rcases f with f | f
  · refine f ?_
    rw [both_split, (low_zero hp h).mpr z.1, (high_zero hp h).mpr z.2]
    exact Int.zero_emod _
  · exact f.2 z
theorem Fit.perm {p : Int} {d : Nat} {l m : List Int} (h : l.Perm m) (f : Fit p d l) : Fit p d m := by
  unfold Fit at f ⊢
  rw [bothR_perm h, h.length_eq, h.mem_iff, h.mem_iff] at f
  exact f
theorem Fit.toW {p : Int} (hp : isPrm p = true) {d : Nat} {zs : List Int} (h : Res p zs) (hl : zs.length ≤ d) (f : Fit p d zs) : FitW p d zs := by
  obtain ⟨p1, p2⟩ := prm_le hp
  refine ⟨hl, fun e => ?_⟩
  rw [bothW (by omega)] at e
  rcases f with f | f
  · exact absurd e f
  · refine ⟨f.1, fun z => ?_⟩
    rw [lowW_eq (by omega)] at z
    exact (shut_out hp h f.2 e).1 ((low_zero hp h).mp z)
end K10

set_option Elab.async false
set_option linter.all false
set_option maxRecDepth 100000
set_option maxHeartbeats 4000000
namespace K10
open PySem PySem.Spec PyProof.Rows L2 DL
/-! the heaviest set is a heaviest one -/
/-- unlike second things, so unlike things -/
abbrev Ux (l : List (Int × Int)) : Prop := (l.map (·.2)).Nodup
theorem Ux.nd {l : List (Int × Int)} (h : Ux l) : l.Nodup := List.Pairwise.of_map (·.2) (fun a b n e => n (by rw [e])) h
theorem Ux.eq {l : List (Int × Int)} (h : Ux l) {x y : Int × Int} (hx : x ∈ l) (hy : y ∈ l) (e : x.2 = y.2) : x = y := by
  induction l with
  | nil => cases hx
  | cons a l ih =>
    have h' : (a.2 :: l.map (·.2)).Nodup := h
    obtain ⟨h1, h2⟩ := List.nodup_cons.mp h'
    rcases List.mem_cons.mp hx with e1 | hx1
    · rcases List.mem_cons.mp hy with e2 | hy1
      · rw [e1, e2]
      · exact absurd (by rw [← e1, e]; exact List.mem_map_of_mem hy1) h1
    · rcases List.mem_cons.mp hy with e2 | hy1
      · exact absurd (by rw [← e2, ← e]; exact List.mem_map_of_mem hx1) h1
      · exact ih h2 hx1 hy1
theorem Ux.sub {l m : List (Int × Int)} (h : Ux l) (s : m.Sublist l) : Ux m := List.Nodup.sublist (s.map _) h
/-- the things of m, as they stand in l -/
theorem as_in {l m : List (Int × Int)} (hl : l.Nodup) (hm : m.Nodup) (h : ∀ x ∈ m, x ∈ l) : (l.filter fun x => decide (x ∈ m)).Perm m := by
  refine (List.perm_ext_iff_of_nodup (List.Nodup.sublist List.filter_sublist hl) hm).mpr fun a => ?_
  rw [List.mem_filter]
  constructor
  · exact fun z => of_decide_eq_true z.2
  · exact fun z => ⟨h a z, decide_eq_true z⟩
theorem ordP_desc {R : List (Int × Int)} (h : OrdP R) (hn : ∀ x ∈ R, x.1 ≤ 0) : Desc R := ⟨h.imp fun {x y} z => by
  rw [lexB_no] at z
  omega, hn⟩
theorem Desc.sub {l m : List (Int × Int)} (h : Desc l) (s : m.Sublist l) : Desc m := ⟨h.ord.sublist s, fun x hx => h.neg x (s.subset hx)⟩
/-- a list of rows, in order, with unlike remainders -/
structure RowsL (p : Int) (R : List (Int × Int)) : Prop where
  ux : Ux R
  de : Desc R
  rs : ∀ r ∈ R, 0 ≤ r.2 ∧ r.2 < p
theorem RowsL.sub {p : Int} {l m : List (Int × Int)} (h : RowsL p l) (s : m.Sublist l) : RowsL p m := ⟨h.ux.sub s, h.de.sub s, fun r hr => h.rs r (s.subset hr)⟩
theorem RowsL.res {p : Int} {R : List (Int × Int)} (h : RowsL p R) : Res p (R.map (·.2)) := fun z hz => by
  obtain ⟨r, hr, rfl⟩ := List.mem_map.mp hz
  exact h.rs r hr
theorem two_most {p : Int} {l : List (Int × Int)} (h : RowsL p l) (h2 : ∀ r ∈ l, r.2 < 2) : l.length ≤ 2 := by
  match l, h, h2 with
  | [], _, _ => simp
  | [_], _, _ => simp
  | [_, _], _, _ => simp
  | a :: b :: c :: m, h, h2 =>
    exfalso
    have ha := h2 a (by simp)
    have hb := h2 b (by simp)
    have hc := h2 c (by simp)
    have ra := h.rs a (by simp)
    have rb := h.rs b (by simp)
    have rc := h.rs c (by simp)
    have u : (a.2 :: b.2 :: c.2 :: m.map (·.2)).Nodup := h.ux
    simp only [List.nodup_cons, List.mem_cons, not_or] at u
    omega
theorem cutR_sub (R : List (Int × Int)) : (cutR R).Sublist R := by
  unfold cutR
  split
  · exact List.filter_sublist
  · exact List.Sublist.refl _
theorem less_rows {p : Int} {R : List (Int × Int)} (h : RowsL p R) : RowsL p (lessR R) ∧ ∀ r ∈ lessR R, r.2 < 2 :=
  ⟨h.sub List.filter_sublist, fun r hr => of_decide_eq_true (List.mem_filter.mp hr).2⟩
/-- what is cut away -/
theorem cutR_cases {p : Int} {R : List (Int × Int)} (h : RowsL p R) : cutR R = R ∧ ¬ (0 ∈ R.map (·.2) ∧ 1 ∈ R.map (·.2)) ∨
    ∃ x y, lessR R = [x, y] ∧ x.1 ≤ y.1 ∧ x ∈ R ∧ y ∈ R ∧ x ≠ y ∧ (x.2 = 0 ∧ y.2 = 1 ∨ x.2 = 1 ∧ y.2 = 0) ∧ cutR R = R.filter fun r => !decide (r = y) := by
  obtain ⟨l1, l2⟩ := less_rows h
  have l3 := two_most l1 l2
  by_cases e : (lessR R).length = 2
  · right
    obtain ⟨x, y, exy⟩ : ∃ x y, lessR R = [x, y] := by
      match q : lessR R, e with
      | [x, y], _ => exact ⟨x, y, rfl⟩
    have hx : x ∈ lessR R := by rw [exy]; simp
    have hy : y ∈ lessR R := by rw [exy]; simp
    have o := l1.de.ord
    have u : Ux (lessR R) := l1.ux
    have a1 := l2 x hx
    have a2 := l2 y hy
    have b1 := l1.rs x hx
    have b2 := l1.rs y hy
    rw [exy] at o u
    have u' : [x.2, y.2].Nodup := u
    simp only [List.nodup_cons, List.mem_singleton, List.not_mem_nil, not_false_iff, true_and, List.nodup_nil] at u'
    have u' : x.2 ≠ y.2 := by first | exact u' | exact u'.1
    have o' := (List.pairwise_cons.mp o).1 y (by simp)
    refine ⟨x, y, exy, o', (List.mem_filter.mp hx).1, (List.mem_filter.mp hy).1, fun z => u' (by rw [z]), by omega, ?_⟩
    unfold cutR
    rw [if_pos e, exy]
    rfl
  · left
    refine ⟨if_neg e, fun ⟨h0, h1⟩ => ?_⟩
    obtain ⟨r0, m0, e0⟩ := List.mem_map.mp h0
    obtain ⟨r1, m1, e1⟩ := List.mem_map.mp h1
    have i0 : r0 ∈ lessR R := List.mem_filter.mpr ⟨m0, decide_eq_true (by omega)⟩
    have i1 : r1 ∈ lessR R := List.mem_filter.mpr ⟨m1, decide_eq_true (by omega)⟩
    match q : lessR R with
    | [] => rw [q] at i0; cases i0
    | [x] =>
      rw [q] at i0 i1
      have z0 := List.mem_singleton.mp i0
      have z1 := List.mem_singleton.mp i1
      rw [z0] at e0
      rw [z1] at e1
      omega
    | x :: y :: m => rw [q, List.length_cons, List.length_cons] at l3 e; omega
theorem cutR_both {p : Int} {R : List (Int × Int)} (h : RowsL p R) : ¬ (0 ∈ (cutR R).map (·.2) ∧ 1 ∈ (cutR R).map (·.2)) := by
  rcases cutR_cases h with ⟨e, n⟩ | ⟨x, y, exy, o, hx, hy, ne, v, e⟩
  · rw [e]
    exact n
  · rintro ⟨h0, h1⟩
    obtain ⟨r0, m0, e0⟩ := List.mem_map.mp h0
    obtain ⟨r1, m1, e1⟩ := List.mem_map.mp h1
    rw [e] at m0 m1
    obtain ⟨m0, n0⟩ := List.mem_filter.mp m0
    obtain ⟨m1, n1⟩ := List.mem_filter.mp m1
    have n0 : r0 ≠ y := by simpa using n0
    have n1 : r1 ≠ y := by simpa using n1
    rcases v with ⟨v1, v2⟩ | ⟨v1, v2⟩
    · exact n1 (h.ux.eq m1 hy (by rw [e1, v2]))
    · exact n0 (h.ux.eq m0 hy (by rw [e0, v2]))
/-- a set without both is as heavy as one of what is left -/
theorem moved {p : Int} {R X : List (Int × Int)} (h : RowsL p R) (s : X.Sublist R) (nb : ¬ (0 ∈ X.map (·.2) ∧ 1 ∈ X.map (·.2))) :
    ∃ X', X'.Sublist (cutR R) ∧ X'.length = X.length ∧ sumF X' ≤ sumF X ∧ (X' = X ∨ (0 ∈ X'.map (·.2) ∨ 1 ∈ X'.map (·.2))) := by
  rcases cutR_cases h with ⟨e, n⟩ | ⟨x, y, exy, o, hx, hy, ne, v, e⟩
  · exact ⟨X, by rw [e]; exact s, rfl, Int.le_refl _, .inl rfl⟩
  · by_cases yX : y ∈ X
    · have xX : x ∉ X := fun z => by
        rcases v with ⟨v1, v2⟩ | ⟨v1, v2⟩
        · exact nb ⟨by rw [← v1]; exact List.mem_map_of_mem z, by rw [← v2]; exact List.mem_map_of_mem yX⟩
        · exact nb ⟨by rw [← v2]; exact List.mem_map_of_mem yX, by rw [← v1]; exact List.mem_map_of_mem z⟩
      have Xn : X.Nodup := (h.ux.sub s).nd
      obtain ⟨X1, eX1⟩ : ∃ X1, X1 = X.filter fun r => !decide (r = y) := ⟨_, rfl⟩
      have in1 : ∀ r, r ∈ X1 ↔ r ∈ X ∧ r ≠ y := fun r => by rw [eX1, List.mem_filter]; simp
      have n1 : X1.Nodup := by rw [eX1]; exact List.Nodup.sublist List.filter_sublist Xn
      have pX : X.Perm (y :: X1) := (List.perm_ext_iff_of_nodup Xn (List.nodup_cons.mpr ⟨fun z => ((in1 y).mp z).2 rfl, n1⟩)).mpr fun r => by
        rw [List.mem_cons, in1]
        constructor
        · intro z
          by_cases q : r = y
          · exact .inl q
          · exact .inr ⟨z, q⟩
        · rintro (rfl | z)
          · exact yX
          · exact z.1
      have nx : (x :: X1).Nodup := List.nodup_cons.mpr ⟨fun z => xX ((in1 x).mp z).1, n1⟩
      have inC : ∀ r, r ∈ R → r ≠ y → r ∈ cutR R := fun r hr q => by rw [e]; exact List.mem_filter.mpr ⟨hr, by simpa using q⟩
      have sub : ∀ r ∈ x :: X1, r ∈ cutR R := fun r hr => by
        rcases List.mem_cons.mp hr with rfl | hr
        · exact inC _ hx ne
        · obtain ⟨a, b⟩ := (in1 r).mp hr
          exact inC r (s.subset a) b
      have pp := as_in (h.ux.sub (cutR_sub R)).nd nx sub
      refine ⟨(cutR R).filter fun r => decide (r ∈ x :: X1), List.filter_sublist, ?_, ?_, .inr ?_⟩
      · rw [pp.length_eq, pX.length_eq]
        rfl
      · rw [sumF_perm pp, sumF_perm pX, sumF_cons, sumF_cons]
        omega
      · have hm : x ∈ (cutR R).filter fun r => decide (r ∈ x :: X1) := pp.mem_iff.mpr List.mem_cons_self
        have hm := List.mem_map_of_mem (f := (·.2)) hm
        rcases v with ⟨v1, v2⟩ | ⟨v1, v2⟩
        · exact .inl (by rw [← v1]; exact hm)
        · exact .inr (by rw [← v1]; exact hm)
    · refine ⟨X, ?_, rfl, Int.le_refl _, .inl rfl⟩
      have z := s.filter fun r => !decide (r = y)
      rw [← e] at z
      have q : X.filter (fun r => !decide (r = y)) = X := List.filter_eq_self.mpr fun r hr => by
        have : r ≠ y := fun z => yX (by rw [← z]; exact hr)
        simpa using this
      rw [q] at z
      exact z
theorem topR_least {p : Int} (hp : isPrm p = true) {d : Nat} (hd : 1 ≤ d) {R X : List (Int × Int)} (h : RowsL p R) (s : X.Sublist R) (hl : X.length ≤ d) (f : Fit p d (X.map (·.2))) : sumF (topR p d (cutR R)) ≤ sumF X := by
  obtain ⟨p1, p2⟩ := prm_le hp
  have hX := h.sub s
  have nb := f.both hp hX.res
  obtain ⟨X', s', l', w', c'⟩ := moved h s nb
  have hC := h.sub (cutR_sub R)
  unfold topR
  split
  · rename_i q
    obtain ⟨q1, q2⟩ := q
    obtain ⟨e, rfl⟩ : ∃ e, d = e + 1 := ⟨d - 1, by omega⟩
    rw [sumF_app, Nat.add_sub_cancel]
    have ne : X' ≠ (cutR R).take (e + 1) := fun z => by
      rw [← z, shut_eq (by omega)] at q2
      have q2 := of_decide_eq_true q2
      have nb2 : ¬ (0 ∈ X'.map (·.2) ∧ 1 ∈ X'.map (·.2)) := fun y => cutR_both h ⟨(s'.map (·.2)).subset y.1, (s'.map (·.2)).subset y.2⟩
      obtain ⟨o0, o1⟩ := shut_out hp (hC.sub s').res nb2 q2
      rcases c' with c' | c' | c'
      · rw [c'] at q2 z
        rcases f with f | f
        · exact f q2
        · rw [List.length_map, z] at f
          omega
      · exact o0 c'
      · exact o1 c'
    have := top2_le s' hC.de e (by omega) ne
    omega
  · have := top_le s' hC.de d (by omega)
    omega
theorem topR_fit {p : Int} (hp : isPrm p = true) {d : Nat} (hd : 1 ≤ d) {R : List (Int × Int)} (h : RowsL p R) : (topR p d (cutR R)).Sublist R ∧ (topR p d (cutR R)).length ≤ d ∧ Fit p d ((topR p d (cutR R)).map (·.2)) := by
  obtain ⟨p1, p2⟩ := prm_le hp
  have hC := h.sub (cutR_sub R)
  have nb := cutR_both h
  have noB : ∀ {Y : List (Int × Int)}, Y.Sublist (cutR R) → ¬ (0 ∈ Y.map (·.2) ∧ 1 ∈ Y.map (·.2)) := fun s y => nb ⟨(s.map (·.2)).subset y.1, (s.map (·.2)).subset y.2⟩
  obtain ⟨e, rfl⟩ : ∃ e, d = e + 1 := ⟨d - 1, by omega⟩
  unfold topR
  split
  · rename_i q
    obtain ⟨q1, q2⟩ := q
    rw [shut_eq (by omega)] at q2
    have q2 := of_decide_eq_true q2
    rw [Nat.add_sub_cancel]
    have sR := cutR_sub R
    generalize cutR R = C at q1 q2 hC noB sR ⊢
    have el : e < C.length := by rw [List.length_take] at q1; omega
    have et : C.take (e + 1) = C.take e ++ [C[e]] := by
      rw [List.take_add_one, List.getElem?_eq_getElem el]
      rfl
    have s1 : (C.take e ++ (C.drop (e + 1)).take 1).Sublist C := by
      have z := List.Sublist.append (List.Sublist.refl (C.take e)) ((List.take_sublist 1 (C.drop (e + 1))).trans (show (C.drop (e + 1)).Sublist (C.drop e) by rw [← List.drop_drop, List.drop_one]; exact List.tail_sublist _))
      rw [List.take_append_drop] at z
      exact z
    refine ⟨s1.trans sR, ?_, ?_⟩
    · rw [List.length_append, List.length_take, List.length_take]
      omega
    cases ed : C.drop (e + 1) with
    | nil =>
      right
      have n2 := noB (List.take_sublist e C)
      rw [List.take_nil, List.append_nil]
      exact ⟨by rw [List.length_map, List.length_take]; omega, n2⟩
    | cons c rest =>
      left
      have ec : C = (C.take e ++ [C[e]]) ++ c :: rest := by rw [← et, ← ed, List.take_append_drop]
      have u : Ux C := hC.ux
      have ma : C[e] ∈ C := List.getElem_mem el
      have mc : c ∈ C := by rw [ec]; simp
      have ne : (C[e]).2 ≠ c.2 := fun z => by
        have u2 : Ux ((C.take e ++ [C[e]]) ++ c :: rest) := by rw [← ec]; exact u
        have u3 : (((C.take e ++ [C[e]]).map (·.2)) ++ (c :: rest).map (·.2)).Nodup := by rw [← List.map_append]; exact u2
        exact (List.nodup_append.mp u3).2.2 _ (List.mem_map_of_mem (f := (·.2)) (List.mem_append_right (C.take e) (List.mem_singleton.mpr rfl))) _ (List.mem_map_of_mem (f := (·.2)) (show c ∈ c :: rest by simp)) z
      have q3 : bothR p ((C.take e).map (·.2) ++ [(C[e]).2]) = 0 := by
        rw [et, List.map_append] at q2
        exact q2
      show bothR p ((C.take e ++ [c]).map (·.2)) ≠ 0
      rw [List.map_append]
      exact shut_one hp (hC.sub (List.take_sublist e C)).res (noB (List.take_sublist e C)) (hC.rs _ ma) (hC.rs _ mc) ne q3
  · rename_i q
    have sR := cutR_sub R
    refine ⟨(List.take_sublist _ _).trans sR, by rw [List.length_take]; omega, ?_⟩
    by_cases e1 : ((cutR R).take (e + 1)).length = e + 1
    · left
      intro z
      exact q ⟨e1, by rw [shut_eq (by omega), decide_eq_true z]⟩
    · right
      exact ⟨by rw [List.length_map]; rw [List.length_take] at e1 ⊢; omega, noB (List.take_sublist _ _)⟩
/-! coins -/
theorem rows_of {p : Int} {cs : List (Int × Int)} (hp : 0 < p) (h : CnsOk p cs) : RowsL p (srtP (rowsOf p cs)) := by
  obtain ⟨s1, s2⟩ := srtP_spec (rowsOf p cs)
  have e : (rowsOf p cs).map (·.2) = cs.map fun c => c.1 % p := by
    unfold rowsOf
    rw [List.map_map]
    rfl
  refine ⟨?_, ordP_desc s2 fun x hx => ?_, fun r hr => ?_⟩
  · show ((srtP (rowsOf p cs)).map (·.2)).Nodup
    rw [(s1.map _).nodup_iff, e]
    exact h.nd
  · obtain ⟨c, hc, rfl⟩ := List.mem_map.mp (s1.mem_iff.mp hx)
    have := h.wt c hc
    dsimp only
    omega
  · obtain ⟨c, hc, rfl⟩ := List.mem_map.mp (s1.mem_iff.mp hr)
    exact ⟨Int.emod_nonneg _ (by omega), Int.emod_lt_of_pos _ hp⟩
theorem wsum_rows (p : Int) (S : List (Int × Int)) : sumF (rowsOf p S) = -wsum S := by
  induction S with
  | nil => rfl
  | cons c S ih =>
    have e1 : rowsOf p (c :: S) = (-c.2, c.1 % p) :: rowsOf p S := rfl
    have e2 : wsum (c :: S) = c.2 + wsum S := by unfold wsum; rw [List.map_cons, List.sum_cons]
    rw [e1, sumF_cons, ih, e2]
    dsimp only
    omega
theorem snd_rows (p : Int) (S : List (Int × Int)) : (rowsOf p S).map (·.2) = S.map fun c => c.1 % p := by
  unfold rowsOf
  rw [List.map_map]
  rfl
/-- the weight that the program tells -/
def bestW (p : Int) (d : Nat) (cs : List (Int × Int)) : Int := -sumF (bestT p d cs)
def bestN (p : Int) (d : Nat) (cs : List (Int × Int)) : List Int := sortI ((bestT p d cs).map (·.2))
theorem bestO_eq {p : Int} {d : Nat} {cs : List (Int × Int)} (hd : 1 ≤ d) : bestO p d cs = some (bestW p d cs, bestN p d cs) := if_neg (by omega)
theorem best_most {p : Int} (hp : isPrm p = true) {d : Nat} (hd : 1 ≤ d) {cs S : List (Int × Int)} (h : CnsOk p cs) (s : S.Sublist cs) (hl : S.length ≤ d) (f : Fit p d (S.map fun c => c.1 % p)) : wsum S ≤ bestW p d cs := by
  obtain ⟨p1, p2⟩ := prm_le hp
  have hR := rows_of (p := p) (by omega) h
  obtain ⟨s1, s2⟩ := srtP_spec (rowsOf p cs)
  have sr : (rowsOf p S).Sublist (rowsOf p cs) := s.map _
  have n0 : (rowsOf p cs).Nodup := s1.nodup_iff.mp hR.ux.nd
  have nS := List.Nodup.sublist sr n0
  have pp := as_in hR.ux.nd nS fun x hx => s1.mem_iff.mpr (sr.subset hx)
  have t := topR_least hp hd hR (X := (srtP (rowsOf p cs)).filter fun x => decide (x ∈ rowsOf p S)) List.filter_sublist
    (by rw [pp.length_eq]; unfold rowsOf; rw [List.length_map]; exact hl) ((f.perm (by rw [← snd_rows]; exact (pp.map _).symm)))
  rw [sumF_perm pp, wsum_rows] at t
  unfold bestW bestT
  omega
structure BestOk (p : Int) (d : Nat) (cs : List (Int × Int)) : Prop where
  few : (bestN p d cs).length ≤ d
  fit : Fit p d (bestN p d cs)
  res : Res p (bestN p d cs)
  sub : ∃ S, S.Sublist cs ∧ (S.map fun c => c.1 % p).Perm (bestN p d cs) ∧ wsum S = bestW p d cs ∧ S = cs.filter fun c => decide (c.1 % p ∈ bestN p d cs)
theorem best_ok {p : Int} (hp : isPrm p = true) {d : Nat} (hd : 1 ≤ d) {cs : List (Int × Int)} (h : CnsOk p cs) : BestOk p d cs := by
  obtain ⟨p1, p2⟩ := prm_le hp
  have hR := rows_of (p := p) (by omega) h
  obtain ⟨s1, s2⟩ := srtP_spec (rowsOf p cs)
  obtain ⟨t1, t2, t3⟩ := topR_fit hp hd hR
  have et : topR p d (cutR (srtP (rowsOf p cs))) = bestT p d cs := rfl
  rw [et] at t1 t2 t3
  obtain ⟨q1, q2⟩ := sortI_spec ((bestT p d cs).map (·.2))
  have q1 : (bestN p d cs).Perm ((bestT p d cs).map (·.2)) := q1
  have hT := hR.sub t1
  refine ⟨by rw [q1.length_eq, List.length_map]; exact t2, t3.perm q1.symm, fun z hz => hT.res z (q1.mem_iff.mp hz), cs.filter fun c => decide (c.1 % p ∈ bestN p d cs), List.filter_sublist, ?_, ?_, rfl⟩
  all_goals
    have pr : (rowsOf p (cs.filter fun c => decide (c.1 % p ∈ bestN p d cs))).Perm (bestT p d cs) := by
      have n0 : (rowsOf p cs).Nodup := s1.nodup_iff.mp hR.ux.nd
      have sr : (rowsOf p (cs.filter fun c => decide (c.1 % p ∈ bestN p d cs))).Sublist (rowsOf p cs) := (List.filter_sublist (l := cs)).map _
      refine (List.perm_ext_iff_of_nodup (List.Nodup.sublist sr n0) hT.ux.nd).mpr fun r => ?_
      constructor
      · intro hr
        obtain ⟨c, hc, rfl⟩ := List.mem_map.mp hr
        obtain ⟨hc1, hc2⟩ := List.mem_filter.mp hc
        have hc2 := q1.mem_iff.mp (of_decide_eq_true hc2)
        obtain ⟨r, hr1, hr2⟩ := List.mem_map.mp hc2
        have e := hR.ux.eq (t1.subset hr1) (s1.mem_iff.mpr (List.mem_map_of_mem (f := fun c : Int × Int => (-c.2, c.1 % p)) hc1)) hr2
        rw [← e]
        exact hr1
      · intro hr
        obtain ⟨c, hc, e⟩ := List.mem_map.mp (s1.mem_iff.mp (t1.subset hr))
        refine List.mem_map.mpr ⟨c, List.mem_filter.mpr ⟨hc, decide_eq_true (q1.mem_iff.mpr (List.mem_map.mpr ⟨r, hr, ?_⟩))⟩, e⟩
        rw [← e]
  · rw [← snd_rows]
    exact (pr.map _).trans q1.symm
  · have z := sumF_perm pr
    rw [wsum_rows] at z
    unfold bestW
    omega
end K10

set_option Elab.async false
set_option linter.all false
set_option maxRecDepth 100000
set_option maxHeartbeats 4000000
namespace K10
open PySem PySem.Spec PyProof.Rows L2 DL
/-! the wrong row, plain laws -/
theorem ev_pad {n : Int} {k : Nat} {r : List Int} : ev n (padL k r) = ev n r := ev_app n r _
theorem getD_two (a b : Int) : [a, b].getD 0 0 = a ∧ [a, b].getD 1 0 = b := ⟨rfl, rfl⟩
theorem rowW_ev {p n : Int} (hp : 1 < p) {zs : List Int} {far : Int} : Cong p (ev n (rowW p zs far)) (prodR n zs * ((facW p zs far).getD 0 0 + n * (facW p zs far).getD 1 0)) := by
  unfold rowW
  refine (ev_bare _).trans ?_
  have fl : (facW p zs far).length ≤ 2 := by
    unfold facW
    split <;> simp
  rw [ev_mul2 (Nat.le_trans (bare_len _ _) fl), bare_getD, bare_getD]
  exact (rooted_ev hp zs).mul ((Cong.mod p _).add ((Cong.refl p n).mul (Cong.mod p _)))
/-- the row's worth at n -/
theorem wrong_at {p n : Int} (hp : 1 < p) {zs : List Int} {far : Int} {k : Nat} (h0 : 0 ≤ n) (h1 : n < p) : ww p n (padL k (rowW p zs far)) = prodR n zs * ((facW p zs far).getD 0 0 + n * (facW p zs far).getD 1 0) % p := by
  have e := worth_ww (p := p) (n := n) (by omega) (padL k (rowW p zs far))
  rw [Int.emod_eq_of_lt h0 h1] at e
  rw [← e, ← worth_lt (by omega), (worth_ev _).eq, ev_pad]
  exact (rowW_ev hp).eq
theorem mod_ne {p a b : Int} (hp : isPrm p = true) (ha : a % p ≠ 0) (hb : b % p ≠ 0) : a * b % p ≠ 0 := fun e => by
  have c : Cong p (a * b) 0 := .of_mod (by rw [e, Int.zero_emod])
  have := (cancel hp c ha).eq
  rw [Int.zero_emod] at this
  exact hb this
theorem inv_ne {p m : Int} (hp : isPrm p = true) (h0 : 0 < m) (h1 : m < p) : invI2 p m % p ≠ 0 := by
  obtain ⟨_, ⟨a, b⟩, _⟩ := gTurned_eq hp h0 h1
  rw [Int.emod_eq_of_lt (by omega) b]
  omega
structure WrongOk (p : Int) (zs : List Int) (far : Int) (row : List Int) : Prop where
  far : (ww p 0 row + ww p 1 row - far) % p = 0
  zero : ∀ n, 0 ≤ n → n < p → (ww p n row = 0 ↔ prodR n zs % p = 0 ∨ (bothR p zs = 0 ∧ n = 1))
theorem wrong_ok {p : Int} (hp : isPrm p = true) {d k : Nat} {zs : List Int} {far : Int} (hf : far % p ≠ 0) (h : FitW p d zs) : WrongOk p zs far (padL k (rowW p zs far)) := by
  obtain ⟨p1, p2⟩ := prm_le hp
  obtain ⟨_, h2⟩ := h
  have m0 := Int.emod_nonneg (lowW p zs + highW p zs) (show p ≠ 0 by omega)
  have m1 := Int.emod_lt_of_pos (lowW p zs + highW p zs) (show 0 < p by omega)
  by_cases hz : (lowW p zs + highW p zs) % p = 0
  · obtain ⟨_, nz⟩ := h2 hz
    obtain ⟨l0, l1⟩ := worth_bd (p := p) (n := 0) (by omega) (rootedP p zs)
    have l0 : 0 ≤ lowW p zs := l0
    have l1 : lowW p zs < p := l1
    obtain ⟨_, _, iv⟩ := gTurned_eq hp (show 0 < lowW p zs by omega) l1
    have ine := inv_ne hp (show 0 < lowW p zs by omega) l1
    have ef : facW p zs far = [far * invI2 p (lowW p zs), -(far * invI2 p (lowW p zs))] := if_pos hz
    have b0 : bothR p zs = 0 := by rw [← bothW (by omega)]; exact hz
    obtain ⟨g, eg⟩ : ∃ g, g = far * invI2 p (lowW p zs) := ⟨_, rfl⟩
    have gne : g % p ≠ 0 := by rw [eg]; exact mod_ne hp hf ine
    have at_ : ∀ n, 0 ≤ n → n < p → ww p n (padL k (rowW p zs far)) = prodR n zs * (g + n * -g) % p := fun n a b => by
      rw [wrong_at (by omega) a b, ef, (getD_two _ _).1, (getD_two _ _).2, eg]
    constructor
    · rw [at_ 0 (by omega) (by omega), at_ 1 (by omega) (by omega)]
      have e1 : prodR 1 zs * (g + 1 * -g) = 0 := by grind
      have e0 : prodR 0 zs * (g + 0 * -g) = prodR 0 zs * g := by grind
      rw [e1, e0, Int.zero_emod, Int.add_zero]
      have c1 : Cong p (prodR 0 zs) (lowW p zs) := .of_mod (by rw [lowW_eq (by omega), Int.emod_emod])
      have c2 : Cong p (prodR 0 zs * g) far := by
        refine (c1.mul (Cong.refl p g)).trans ?_
        have e2 : lowW p zs * g = far * (invI2 p (lowW p zs) * lowW p zs) := by rw [eg]; grind
        rw [e2]
        have c3 : Cong p (invI2 p (lowW p zs) * lowW p zs) 1 := .of_mod (by rw [iv, Int.emod_eq_of_lt (by omega) (by omega)])
        have z := (Cong.refl p far).mul c3
        rw [Int.mul_one] at z
        exact z
      have c4 := ((Cong.mod p _).trans c2).sub (Cong.refl p far)
      rw [Int.sub_self] at c4
      have := c4.eq
      rw [Int.zero_emod] at this
      exact this
    · intro n n0 n1
      rw [at_ n n0 n1]
      have e : prodR n zs * (g + n * -g) = prodR n zs * (g * (1 - n)) := by grind
      rw [e]
      constructor
      · intro z
        by_cases q : prodR n zs % p = 0
        · exact .inl q
        · refine .inr ⟨b0, ?_⟩
          apply Classical.byContradiction
          intro n1'
          refine mod_ne hp q (mod_ne hp gne fun y => ?_) z
          have c : Cong p (1 - n) 0 := .of_mod (by rw [y, Int.zero_emod])
          have c := c.add (Cong.refl p n)
          have e4 : 1 - n + n = 1 := by omega
          rw [e4, Int.zero_add] at c
          have := c.eq
          rw [Int.emod_eq_of_lt n0 n1, Int.emod_eq_of_lt (by omega) (by omega)] at this
          omega
      · rintro (z | ⟨_, rfl⟩)
        · have c : Cong p (prodR n zs) 0 := .of_mod (by rw [z, Int.zero_emod])
          have := (c.mul (Cong.refl p (g * (1 - n)))).eq
          rw [Int.zero_mul, Int.zero_emod] at this
          exact this
        · have e5 : prodR 1 zs * (g * (1 - 1)) = 0 := by grind
          rw [e5, Int.zero_emod]
  · have ef : facW p zs far = [far * invI2 p ((lowW p zs + highW p zs) % p)] := if_neg hz
    have b0 : bothR p zs ≠ 0 := by rw [← bothW (by omega)]; exact hz
    obtain ⟨_, _, iv⟩ := gTurned_eq hp (show 0 < (lowW p zs + highW p zs) % p by omega) m1
    have ine := inv_ne hp (show 0 < (lowW p zs + highW p zs) % p by omega) m1
    obtain ⟨g, eg⟩ : ∃ g, g = far * invI2 p ((lowW p zs + highW p zs) % p) := ⟨_, rfl⟩
    have gne : g % p ≠ 0 := by rw [eg]; exact mod_ne hp hf ine
    have at_ : ∀ n, 0 ≤ n → n < p → ww p n (padL k (rowW p zs far)) = prodR n zs * g % p := fun n a b => by
      rw [wrong_at (by omega) a b, ef, ← eg]
      show prodR n zs * (g + n * 0) % p = _
      rw [Int.mul_zero, Int.add_zero]
    constructor
    · rw [at_ 0 (by omega) (by omega), at_ 1 (by omega) (by omega)]
      have c1 : Cong p (prodR 0 zs * g % p + prodR 1 zs * g % p) ((lowW p zs + highW p zs) % p * g) := by
        refine ((Cong.mod p _).add (Cong.mod p _)).trans ?_
        have e : prodR 0 zs * g + prodR 1 zs * g = (prodR 0 zs + prodR 1 zs) * g := by grind
        rw [e]
        refine Cong.mul (.of_mod ?_) (Cong.refl p g)
        rw [Int.emod_emod, bothW (by omega)]
        rfl
      have c2 : Cong p ((lowW p zs + highW p zs) % p * g) far := by
        have e2 : (lowW p zs + highW p zs) % p * g = far * (invI2 p ((lowW p zs + highW p zs) % p) * ((lowW p zs + highW p zs) % p)) := by rw [eg]; grind
        rw [e2]
        have c3 : Cong p (invI2 p ((lowW p zs + highW p zs) % p) * ((lowW p zs + highW p zs) % p)) 1 := .of_mod (by rw [iv, Int.emod_eq_of_lt (by omega) (by omega)])
        have z := (Cong.refl p far).mul c3
        rw [Int.mul_one] at z
        exact z
      have c4 := (c1.trans c2).sub (Cong.refl p far)
      rw [Int.sub_self] at c4
      have := c4.eq
      rw [Int.zero_emod] at this
      exact this
    · intro n n0 n1
      rw [at_ n n0 n1]
      constructor
      · intro z
        apply Classical.byContradiction
        intro q
        exact mod_ne hp (fun y => q (.inl y)) gne z
      · rintro (z | ⟨z, _⟩)
        · have c : Cong p (prodR n zs) 0 := .of_mod (by rw [z, Int.zero_emod])
          have := (c.mul (Cong.refl p g)).eq
          rw [Int.zero_mul, Int.zero_emod] at this
          exact this
        · exact absurd z b0
theorem prod_zero {p n : Int} (hp : isPrm p = true) {zs : List Int} (h : Res p zs) (h0 : 0 ≤ n) (h1 : n < p) : prodR n zs % p = 0 ↔ n ∈ zs := by
  obtain ⟨p1, p2⟩ := prm_le hp
  constructor
  · intro e
    apply Classical.byContradiction
    intro no
    refine prodR_ne hp (fun x hx e2 => ?_) e
    obtain ⟨a, b⟩ := h x hx
    rw [Int.emod_eq_of_lt h0 h1, Int.emod_eq_of_lt a b] at e2
    exact no (by rw [e2]; exact hx)
  · intro h
    have z := (prodR_zero (p := p) (n := n) h rfl).eq
    rw [Int.zero_emod] at z
    exact z
theorem wsum_le {cs : List (Int × Int)} {f g : Int × Int → Bool} (h : ∀ c ∈ cs, 0 ≤ c.2) (hfg : ∀ c ∈ cs, f c = true → g c = true) : wsum (cs.filter f) ≤ wsum (cs.filter g) := by
  induction cs with
  | nil => exact Int.le_refl _
  | cons c cs ih =>
    have ih := ih (fun c hc => h c (List.mem_cons_of_mem _ hc)) fun c hc => hfg c (List.mem_cons_of_mem _ hc)
    have c0 := h c List.mem_cons_self
    have cf := hfg c List.mem_cons_self
    have e : ∀ l, wsum (c :: l) = c.2 + wsum l := fun l => by unfold wsum; rw [List.map_cons, List.sum_cons]
    rw [List.filter_cons, List.filter_cons]
    split
    · rename_i q
      rw [if_pos (cf q), e, e]
      omega
    · split
      · rw [e]; omega
      · exact ih
/-- the coins at which the wrong row is 0 weigh as much -/
theorem zero_weight {p : Int} (hp : isPrm p = true) {d : Nat} (hd : 1 ≤ d) {cs : List (Int × Int)} (h : CnsOk p cs) {far : Int} {row : List Int} (w : WrongOk p (bestN p d cs) far row) :
    wsum (cs.filter fun c => decide (ww p (c.1 % p) row = 0)) = bestW p d cs := by
  obtain ⟨p1, p2⟩ := prm_le hp
  have B := best_ok hp hd h
  obtain ⟨S0, s0, pp, ew, es⟩ := B.sub
  have rng : ∀ c : Int × Int, 0 ≤ c.1 % p ∧ c.1 % p < p := fun c => ⟨Int.emod_nonneg _ (by omega), Int.emod_lt_of_pos _ (by omega)⟩
  have zr : ∀ c : Int × Int, ww p (c.1 % p) row = 0 ↔ c.1 % p ∈ bestN p d cs ∨ (bothR p (bestN p d cs) = 0 ∧ c.1 % p = 1) := fun c => by
    rw [w.zero _ (rng c).1 (rng c).2, prod_zero hp B.res (rng c).1 (rng c).2]
  have wt : ∀ c ∈ cs, 0 ≤ c.2 := fun c hc => by have := h.wt c hc; omega
  have lo : bestW p d cs ≤ wsum (cs.filter fun c => decide (ww p (c.1 % p) row = 0)) := by
    rw [← ew, es]
    exact wsum_le wt fun c _ z => decide_eq_true ((zr c).mpr (.inl (of_decide_eq_true z)))
  refine Int.le_antisymm ?_ lo
  by_cases q : bothR p (bestN p d cs) = 0 ∧ ∃ c ∈ cs, c.1 % p = 1
  · obtain ⟨q1, c1, hc1, e1⟩ := q
    have nb := B.fit.both hp B.res
    obtain ⟨o0, o1⟩ := shut_out hp B.res nb q1
    have hlen : (bestN p d cs).length < d := by
      rcases B.fit with f | f
      · exact absurd q1 f
      · exact f.1
    have sub : (cs.filter fun c => decide (ww p (c.1 % p) row = 0)).Sublist cs := List.filter_sublist
    have nd : ((cs.filter fun c => decide (ww p (c.1 % p) row = 0)).map fun c => c.1 % p).Nodup := List.Nodup.sublist (sub.map _) h.nd
    have nN : (bestN p d cs).Nodup := pp.nodup_iff.mp (List.Nodup.sublist (s0.map _) h.nd)
    have pr : ((cs.filter fun c => decide (ww p (c.1 % p) row = 0)).map fun c => c.1 % p).Perm (1 :: bestN p d cs) := by
      refine (List.perm_ext_iff_of_nodup nd (List.nodup_cons.mpr ⟨o1, nN⟩)).mpr fun z => ?_
      rw [List.mem_map, List.mem_cons]
      constructor
      · rintro ⟨c, hc, rfl⟩
        rcases (zr c).mp (of_decide_eq_true (List.mem_filter.mp hc).2) with y | y
        · exact .inr y
        · exact .inl y.2
      · rintro (rfl | y)
        · exact ⟨c1, List.mem_filter.mpr ⟨hc1, decide_eq_true ((zr c1).mpr (.inr ⟨q1, e1⟩))⟩, e1⟩
        · obtain ⟨c, hc, rfl⟩ := List.mem_map.mp (pp.mem_iff.mpr y)
          exact ⟨c, List.mem_filter.mpr ⟨s0.subset hc, decide_eq_true ((zr c).mpr (.inl y))⟩, rfl⟩
    refine best_most hp hd h sub ?_ (Fit.perm pr.symm (.inl fun z => ?_))
    · have := pr.length_eq
      rw [List.length_map, List.length_cons] at this
      omega
    · have z0 : prodR 0 (1 :: bestN p d cs) % p ≠ 0 := by
        rw [prodR_cons]
        refine mod_ne hp (fun y => ?_) fun y => o0 ((low_zero hp B.res).mp y)
        have e : (0 - 1 : Int) % p = p - 1 := by
          rw [show (0 - 1 : Int) = (p - 1) + p * (-1) by grind, Int.add_mul_emod_self_left, Int.emod_eq_of_lt (by omega) (by omega)]
        rw [e] at y
        omega
      have z1 : prodR 1 (1 :: bestN p d cs) % p = 0 := by
        rw [prodR_cons]
        have e : ((1 : Int) - 1) * prodR 1 (bestN p d cs) = 0 := by grind
        rw [e, Int.zero_emod]
      exact z0 (both_high hp z z1)
  · have e : (cs.filter fun c => decide (ww p (c.1 % p) row = 0)) = S0 := by
      rw [es]
      refine List.filter_congr fun c hc => ?_
      have : (ww p (c.1 % p) row = 0) ↔ c.1 % p ∈ bestN p d cs := by
        rw [zr c]
        exact ⟨fun y => y.elim id fun y => absurd ⟨y.1, c, hc, y.2⟩ q, .inl⟩
      rw [decide_eq_decide.mpr this]
    rw [e, ew]
    exact Int.le_refl _
end K10

set_option Elab.async false
set_option linter.all false
set_option maxRecDepth 100000
set_option maxHeartbeats 4000000
namespace K10
open PySem PySem.Spec PyProof.Rows L2 DL
section
variable {P : Program} {w : World} {K : PySem.W.Frag} {mg : Str → Option Value} {base : Heap} {A : Ad}
local macro_rules | `(tactic| walk_at "s0") => `(tactic| with_reducible first
  | refine ws_seq ?_ | refine ws_next ?_ | refine ws_ret ?_ | refine ws_retN ?_ | refine ws_if ?_ | refine ws_asg ?_ | refine ws_drop ?_ | refine ws_par ?_ | refine ws_break ?_ | refine ws_cont ?_
  | refine we_var rfl ?_ | refine we_int ?_ | refine we_non ?_ | refine we_bl ?_ | refine we_str ?_ | refine we_ty ?_ | refine we_dnew ?_ | refine we_op ?_ | refine we_un ?_
  | refine we_and ?_ | refine we_or ?_ | refine we_not ?_ | refine we_if ?_ | refine we_chain ?_ | refine we_cb ?_ | refine we_tup ?_ | refine we_lst ?_
  | refine wl_cons ?_ | refine wl_nil ?_ | refine wt_B ?_ | refine wt_test ?_ | refine wt_and ?_ | refine wt_or ?_ | refine wt_not ?_ | refine wt_yes ?_
  | refine wi_tup ?_ | refine wi_list ?_ | refine wg_tup rfl ?_ | refine wgs_cons ?_ | refine wgs_nil ?_
  | refine rd_add_int ?_ | refine rd_sub ?_ | refine rd_lt ?_ | refine rd_le ?_ | refine rd_gt ?_ | refine rd_ge ?_ | refine rd_eq_int ?_ | refine rd_ne_int ?_ | refine rd_eq_str ?_ | refine rd_ne_str ?_ | refine rd_eq_bl ?_ | refine rd_ne_bl ?_ | refine rd_is ?_ | refine rd_is_bl ?_ | refine rd_isnot ?_ | refine ru_neg ?_
  | refine rc_int ?_ | refine rc_abs ?_ | refine rc_anyF ?_ | refine rc_allF ?_
  | refine brT ?_ | refine brF ?_ | refine brT' ?_ | refine brF' ?_
  | refine ⟨_, rfl, ?_⟩)
set_option hygiene false in
local macro_rules | `(tactic| walk_at "s1") => `(tactic| first
  | refine we_isiLT ?_ | refine we_isiILT ?_ | refine wi_seqV (by rfl) (by rfl) ?_ | walk_at "s0" | refine ⟨true, by rfl, ?_⟩ | refine ⟨false, by rfl, ?_⟩ | refine we_ref ?_ | refine we_fld1 ?_ | refine ⟨_, _, _, _, rfl, T.n_Poly_prime, by rfl, ?_⟩ | refine ⟨_, _, _, _, rfl, T.n_Poly_row, by rfl, ?_⟩ | refine rc_isiB (r := true) (by rfl) ?_ | refine rc_isiO T.k_Poly ?_ | refine rc_isiN T.k_Poly (by rfl) ?_ | refine we_callF (by assumption) ?_ | refine we_callF (X := fun _ _ _ _ => False) xok0 ?_ | refine we_callFl (by assumption) ?_ | refine we_callFl (X := fun _ _ _ _ => False) xok0 ?_ | refine we_makeFl (by assumption) ?_ | refine we_makeFl (X := fun _ _ _ _ => False) xok0 ?_ | refine we_makeF (by assumption) ?_ | refine we_makeF (X := fun _ _ _ _ => False) xok0 ?_ | refine DX.ws_rs (by assumption) ?_ | refine wt_test ?_ | refine co_ret rfl (by rfl) ?_ | refine wg_nm (by rfl) ?_ | refine parB (by rfl) (by rfl) ?_ | refine szB (by rfl) ?_ | refine szL (by rfl) ?_ | refine brT2 (by rfl) ?_ | refine brF2 (by rfl) ?_ | refine brT3 (by rfl) ?_ | refine brF3 (by rfl) ?_ | refine rc_isiB (r := false) (by rfl) ?_)
abbrev mixS : Spc := drawSpc (fun as b => ∃ l : List D, as = [.lst l] ∧ l.length ≤ 1000 ∧ b ≤ 100000000000) (fun as b d b' => ∃ l l' : List D, as = [.lst l] ∧ d = .lst l' ∧ l'.Perm l ∧ b' = b + l.length)
theorem perm_pop {l : List D} {i : Nat} {d : D} (h : l[i]? = some d) : (d :: l.eraseIdx i).Perm l := by
  induction l generalizing i with
  | nil => simp at h
  | cons x l ih =>
    cases i with
    | zero =>
      have e : x = d := by simpa using h
      subst e
      exact .refl _
    | succ i => exact (List.Perm.swap _ _ _).trans ((ih (by simpa using h)).cons x)
theorem ok_mixed (T : Tx P K mg A) : CalX P w K mg base 2 "_law_mixed" (SpS K 2 mixS) := by
  have c__law_draw := @ok_draw P w K mg base A T
  obtain ⟨a, fd, F, m, bi⟩ := T.f__law_mixed
  refine ⟨a, fd, _, fnS F sc__law_mixed rfl (fun cdv A' outer sh H E hr => ⟨_, (pss_cons (ps_asg (pe_callTy (DK.lst (K := K)) (by rfl) T.z_list (by decide +kernel) (pa_cons (pv 1) pa_nil)) (pg_name (i := 2) sc__law_mixed.nd rfl (by first | exact .inl rfl | exact .inr rfl)))
  (pss_one (ps_ret (pe_lc (own := [("_law_k", 3)]) (g := (gName 3)) (tt := tYes) rfl sc__law_mixed.nd (pi_range1 (by rfl) T.z_range (pa_cons (pe_callB (DK.len (K := K)) (by rfl) T.z_len (by decide +kernel) (pa_cons (pv 2) pa_nil)) pa_nil)) (blkOk_by (own := [("_law_k", 3)]) (N := n__law_mixed) (sc := (defScope s__law_mixed)) (by first | decide +kernel | kernel_rfl)) (fun _ _ _ _ _ => (pg_name (i := 3) sc__law_mixed.nd rfl (by first | exact .inl rfl | exact .inr rfl))) (fun _ _ _ _ _ => pts_nil) (fun _ _ _ _ _ => (DK.pe_bm PySem.F.plainAttrs_list PySem.F.slot_list_pop PySem.F.type_list_pop mt_popAt (pv 2) (pa_cons (pe_cx c__law_draw hr (by omega) (by rfl) passL (pa_cons (pv 0) (pa_cons (pe_callB (DK.len (K := K)) (by rfl) T.z_len (by decide +kernel) (pa_cons (pv 2) pa_nil)) pa_nil))) pa_nil))))))), fun R k0 ds b hp hl hE => ?_⟩), m, F.kp, bi⟩
  obtain ⟨aa, ls, as, rfl, rfl, ll, rfl, l1, hb⟩ := hp
  refine ws_seq (ws_asg (we_newL (we_var rfl ⟨_, rfl, fun o no => ?_⟩)))
  refine wg_nm (by rfl) ?_
  dsimp only [List.set]
  refine ws_ret (we_lcG (kg_name (by decide)) ?_)
  refine wi_rng1 (wl_cons (we_lenM (j := 0) (o := o) (ds := ll) (we_var rfl ⟨rfl, rfl, wl_nil ⟨(ll.length : Int), rfl, by omega, by omega, ?_⟩⟩)))
  rw [Int.toNat_natCast]
  refine ⟨fun i acc m b' => ∃ rest, m = [(o, .lst rest)] ∧ rest.length + i = ll.length ∧ (acc ++ rest).Perm ll ∧ acc.length = i ∧ b' = b + i, ⟨ll, rfl, rfl, .refl _, rfl, rfl⟩, ?_, ?_⟩
  · rintro i d acc m b' oD hi ⟨rest, rfl, h1, h2, h3, rfl⟩
    obtain ⟨rfl, hi'⟩ := rngD_get hi
    refine wg_nm (by rfl) ?_
    refine wt_yes ⟨fun _ => ?_, fun z => (nomatch z)⟩
    refine we_popE (j := 1) (o := o) (fun _ _ _ z => (nomatch z)) (we_var rfl ⟨rfl, ⟨rest, rfl⟩, ?_⟩)
    refine we_callR (SubR.self rfl) (X := fun _ _ _ _ => False) xok0 ?_
    refine wl_cons (we_var rfl (wl_cons (we_lenM (j := 1) (o := o) (ds := rest) (we_var rfl ⟨rfl, rfl, wl_nil ?_⟩))))
    refine ⟨rfl, ⟨aa, ls, _, rfl, rfl, rest.length, rfl, by omega, by omega, by dsimp only; omega⟩, ?_, fun _ _ _ _ z => z⟩
    rintro d b2 ⟨a2, as2, e2, n, x, e3, rfl, x1, x2, rfl⟩
    cases e2
    cases e3
    obtain ⟨k, rfl⟩ := Int.eq_ofNat_of_zero_le x1
    have hk : k < rest.length := by omega
    have ek : rest[k]? = some rest[k] := List.getElem?_eq_getElem hk
    refine ⟨k, rest[k], rest, rfl, by omega, rfl, ek, lt_size (by omega), _, rfl, rest.eraseIdx k, rfl, ?_, ?_, ?_, ?_⟩
    · rw [List.length_eraseIdx_of_lt hk]; omega
    · rw [List.append_assoc]
      exact ((perm_pop ek).append_left acc).trans h2
    · rw [List.length_append, h3]; rfl
    · dsimp only; omega
  · rintro acc m b' ⟨rest, rfl, h1, h2, h3, rfl⟩
    rw [rngD_len] at h1
    have er : rest = [] := List.length_eq_zero_iff.mp (by omega)
    subst er
    rw [List.append_nil] at h2
    refine ⟨aa, _, rfl, ll, acc, rfl, rfl, h2, ?_⟩
    dsimp only
    rw [rngD_len]
/-! the law's own coins, sets -/
theorem perm_ints {l : List D} {xs : List Int} (h : l.Perm (xs.map D.int)) : ∃ ys : List Int, l = ys.map D.int ∧ ys.Perm xs := by
  refine ⟨l.map dI, ?_, ?_⟩
  · rw [List.map_map]
    conv => lhs; rw [← List.map_id l]
    refine List.map_congr_left fun d hd => ?_
    obtain ⟨x, _, rfl⟩ := List.mem_map.mp (h.mem_iff.mp hd)
    rfl
  · have z := h.map dI
    have e : (xs.map D.int).map dI = xs := by
      rw [List.map_map]
      exact (List.map_congr_left fun _ _ => rfl).trans (List.map_id' xs)
    rw [e] at z
    exact z
def rngI (n : Nat) : List Int := (List.range n).map fun i : Nat => (0 : Int) + (i : Int)
theorem rngI_nd (n : Nat) : (rngI n).Nodup := by
  unfold rngI
  show List.Pairwise _ _
  rw [List.pairwise_map]
  refine List.nodup_range.imp fun {a b} h e => h ?_
  have e : (0 : Int) + (a : Int) = 0 + (b : Int) := e
  omega
theorem rngI_mem {n : Nat} {x : Int} (h : x ∈ rngI n) : 0 ≤ x ∧ x < n := by
  unfold rngI at h
  obtain ⟨i, hi, rfl⟩ := List.mem_map.mp h
  have := List.mem_range.mp hi
  omega
theorem rngD_ints (n : Nat) : rngD 0 n = (rngI n).map D.int := by
  unfold rngD rngI
  rw [List.map_map]
  rfl
/-- drawn coins: at most m, at least one -/
structure LotOk (p m : Int) (l : List (Int × Int)) : Prop where
  ok : CnsOk p l
  few : (l.length : Int) ≤ m
  small : ∀ c ∈ l, -1000 ≤ c.1 ∧ c.1 ≤ 1000
abbrev lotS : Spc := drawSpc (fun as b => ∃ p m : Int, as = [.int p, .int m] ∧ isPrm p = true ∧ (1 ≤ m ∧ m ≤ 20) ∧ b ≤ 10000000000) (fun as b d b' => ∃ (p m : Int) (l : List (Int × Int)), as = [.int p, .int m] ∧ d = cnsD l ∧ LotOk p m l ∧ b' ≤ b + 300)
set_option maxHeartbeats 8000000 in
theorem ok_lot (T : Tx P K mg A) : CalX P w K mg base 3 "_law_w_lot" (SpS K 3 lotS) := by
  have c__law_draw := @ok_draw P w K mg base A T
  have c__law_mixed := @ok_mixed P w K mg base A T
  obtain ⟨a, fd, F, m, bi⟩ := T.f__law_w_lot
  refine ⟨a, fd, _, fnS F sc__law_w_lot rfl (fun cdv A' outer sh H E hr => ⟨_, (pss_cons (ps_asg (pe_lst pa_nil) (pg_name (i := 3) sc__law_w_lot.nd rfl (by first | exact .inl rfl | exact .inr rfl)))
  (pss_cons (ps_for (passes_of rfl) rfl (DK.pi_seq (K := K) (pe_slice (DK.sl (K := K)) (pe_cx c__law_mixed hr (by omega) (by rfl) (passes_call (takes_of rfl rfl rfl rfl) (fun _ _ _ _ z => z)) (pa_cons (pv 0) (pa_cons (pe_listRg rfl (by rfl) T.z_list (prg_1 (by rfl) T.z_range (pv 1))) pa_nil))) po_none (po_some (pv 2)))) (pg_name (i := 4) sc__law_w_lot.nd rfl (by first | exact .inl rfl | exact .inr rfl))
  (pss_one (ps_expr (pe_bm PySem.F.plainAttrs_list PySem.F.slot_list_append PySem.F.type_list_append mt_append (pv 3) (pa_cons (pe_tup (pa_cons (pe_op (DK.op_add (K := K)) (pv 4) (pe_op op_mulK (pv 1) (pe_op op_subK (pe_cx c__law_draw hr (by omega) (by rfl) (passes_call (takes_of rfl rfl rfl rfl) (fun _ _ _ _ z => z)) (pa_cons (pv 0) (pa_cons pe_int pa_nil))) pe_int))) (pa_cons (pe_op (DK.op_add (K := K)) pe_int (pe_cx c__law_draw hr (by omega) (by rfl) (passes_call (takes_of rfl rfl rfl rfl) (fun _ _ _ _ z => z)) (pa_cons (pv 0) (pa_cons pe_int pa_nil)))) pa_nil))) pa_nil)))))
  (pss_one (ps_ret (pv 3))))), fun R k0 ds b hp hl hE => ?_⟩), m, F.kp, bi⟩
  obtain ⟨aa, ls, as, rfl, rfl, p, mm, rfl, h1, hm, hb⟩ := hp
  obtain ⟨p1, p2⟩ := prm_le h1
  obtain ⟨k, rfl⟩ := Int.eq_ofNat_of_zero_le (show 0 ≤ mm by omega)
  have SB : SubR ⟨K, strm aa ls, k0, H, true, fun _ => none⟩ (strm aa ls) := SubR.self rfl
  refine ws_seq (ws_asg (we_lstM (wl_nil (szB rfl fun q nq => ?_))))
  refine wg_nm (by rfl) ?_
  dsimp only [startD, List.map, List.append, List.replicate, List.set]
  refine ws_seq (ws_for (wi_seqL (we_slL ?_)))
  refine we_callR SB (X := fun _ _ _ _ => False) xok0 (wl_cons (we_var rfl (wl_cons (we_lstRg1 (we_var rfl ⟨p, rfl, by omega, by omega, wl_nil ?_⟩)))))
  refine ⟨rfl, ⟨aa, ls, _, rfl, rfl, _, rfl, by rw [rngD_len]; omega, by first | omega | (dsimp only; omega)⟩, ?_, fun _ _ _ _ z => z⟩
  rintro d' b' ⟨a2, as2, e2, l1, l2, e3, rfl, perm, rfl⟩
  cases e2
  injection e3 with e3 _
  injection e3 with e3
  subst e3
  rw [rngD_ints] at perm
  obtain ⟨pl, rfl, perm2⟩ := perm_ints perm
  have pnd : pl.Nodup := perm2.nodup_iff.mpr (rngI_nd _)
  have prg : ∀ x ∈ pl, 0 ≤ x ∧ x < p := fun x hx => by
    have := rngI_mem (perm2.mem_iff.mp hx)
    omega
  have plen : pl.length = p.toNat := by
    rw [perm2.length_eq]
    unfold rngI
    rw [List.length_map, List.length_range]
  clear perm perm2
  refine wo_none (wo_some (we_var rfl ⟨_, rfl, _, rfl, _, rfl, ?_⟩))
  rw [cut_take, ← List.map_take]
  have qnd : (pl.take k).Nodup := List.Nodup.sublist (List.take_sublist _ _) pnd
  have qrg : ∀ x ∈ pl.take k, 0 ≤ x ∧ x < p := fun x hx => prg x (List.mem_of_mem_take hx)
  have qlen : (pl.take k).length ≤ k ∧ 1 ≤ (pl.take k).length ∧ (pl.take k).length ≤ 20 := by rw [List.length_take]; omega
  generalize pl.take k = ql at qnd qrg qlen
  clear pnd prg plen
  obtain ⟨b1, eb1⟩ : ∃ b1 : Nat, b1 = b + (rngD 0 p.toNat).length := ⟨_, rfl⟩
  have hb1 : b1 ≤ b + 101 := by rw [eb1, rngD_len]; omega
  dsimp only
  rw [← eb1]
  clear eb1
  refine ⟨fun j ς => ∃ (pts : List (Int × Int)) (x4 : Option D) (b2 : Nat), ς = { δ := [some (.ref aa), some (.int p), some (.int (k : Int)), some (.ref q), x4], m := [(q, .lst (pts.map pD))], b := b2 } ∧ b2 ≤ b1 + 2 * j ∧ (pts.map fun q => q.1 % p) = ql.take j ∧ ∀ q ∈ pts, (1 ≤ q.2 ∧ q.2 ≤ 1000) ∧ -1000 ≤ q.1 ∧ q.1 ≤ 1000, ⟨[], none, _, rfl, by omega, rfl, fun _ h => absurd h (by simp)⟩, ?_, ?_⟩
  · rintro j d ς hj ⟨pts, x4, b2, rfl, hb2, er, hp⟩
    obtain ⟨rfl, hpj, jl⟩ := get_iL hj
    generalize ql.getD j 0 = y at hpj
    obtain ⟨y1, y2⟩ := qrg y (List.mem_of_getElem? hpj)
    have lp : pts.length = j := by
      have z := congrArg List.length er
      rw [List.length_map, List.length_take] at z
      omega
    refine wg_nm (by rfl) ?_
    dsimp only [List.set]
    refine ws_append (j := 0) (o := q) (ds := pts.map pD) (fun _ _ _ z => (nomatch z)) ?_
    refine we_var rfl ⟨rfl, ⟨_, rfl⟩, we_tup (wl_cons (we_op (we_var rfl (we_op (we_var rfl (we_op ?_))))))⟩
    refine we_draw SB (by rfl) (by omega) (by omega) (by first | omega | (dsimp only; omega)) fun u u1 u2 => ?_
    refine we_int (rd_sub (rd_mul (mul_small (by omega) (by omega)) (rd_add_int (wl_cons (we_op (we_int ?_))))))
    refine we_draw SB (by rfl) (by omega) (by omega) (by first | omega | (dsimp only; omega)) fun v v1 v2 => ?_
    refine rd_add_int (wl_nil (szB rfl ?_))
    refine ⟨rfl, lt_size (by rw [List.length_map]; omega), ?_⟩
    dsimp only [List.set]
    have em : pts.map pD ++ [D.tup [.int (y + p * (u - 1)), .int (1 + v)]] = (pts ++ [(y + p * (u - 1), 1 + v)]).map pD := by
      rw [List.map_append]
      rfl
    rw [em]
    refine ⟨_, _, _, rfl, by first | omega | (dsimp only; omega), ?_, fun q hq => ?_⟩
    · rw [List.map_append, er, List.take_add_one, hpj]
      show _ ++ [(y + p * (u - 1)) % p] = _ ++ [y]
      rw [Int.add_mul_emod_self_left, Int.emod_eq_of_lt y1 y2]
    · rcases List.mem_append.mp hq with hq | hq
      · exact hp q hq
      · rw [List.mem_singleton.mp hq]
        refine ⟨⟨by show 1 ≤ 1 + v; omega, by show 1 + v ≤ 1000; omega⟩, ?_⟩
        show -1000 ≤ y + p * (u - 1) ∧ y + p * (u - 1) ≤ 1000
        have hu : u - 1 = -1 ∨ u - 1 = 0 ∨ u - 1 = 1 := by omega
        rcases hu with e | e | e <;> rw [e] <;> omega
  · rintro ς ⟨pts, x4, b2, rfl, hb2, er, hp⟩
    rw [List.length_map, List.take_length] at er
    rw [List.length_map] at hb2
    have lp : pts.length = ql.length := by
      have z := congrArg List.length er
      rw [List.length_map] at z
      exact z
    refine ws_freeze (i := 3) (j := 0) rfl rfl rfl ?_
    dsimp only [List.set, List.eraseIdx]
    refine ws_ret (we_var rfl ?_)
    exact ⟨aa, _, rfl, p, k, pts, rfl, rfl, ⟨⟨fun z => by rw [z] at lp; simp at lp; omega, by omega, fun c hc => (hp c hc).1, by rw [er]; exact qnd⟩, by omega, fun c hc => (hp c hc).2⟩, by first | omega | (dsimp only; omega)⟩
abbrev coinsS : Spc := drawSpc (fun as b => ∃ p m : Int, as = [.int p, .int m] ∧ isPrm p = true ∧ (1 ≤ m ∧ m ≤ 20) ∧ b ≤ 1000000000) (fun as b d b' => ∃ (p m : Int) (l : List (Int × Int)), as = [.int p, .int m] ∧ d = cnsD l ∧ LotOk p m l ∧ b' ≤ b + 310)
theorem ok_w_coins (T : Tx P K mg A) : CalX P w K mg base 4 "_law_w_coins" (SpS K 3 coinsS) := by
  have c__law_draw := @ok_draw P w K mg base A T
  have c__law_w_lot := @ok_lot P w K mg base A T
  obtain ⟨a, fd, F, m, bi⟩ := T.f__law_w_coins
  refine ⟨a, fd, _, fnS F sc__law_w_coins rfl (fun cdv A' outer sh H E hr => ⟨_, (pss_one (ps_ret (pe_cx c__law_w_lot hr (by omega) (by rfl) (passes_call (takes_of rfl rfl rfl rfl) (fun _ _ _ _ z => z)) (pa_cons (pv 0) (pa_cons (pv 1) (pa_cons (pe_op (DK.op_add (K := K)) pe_int (pe_cx c__law_draw hr (by omega) (by rfl) (passes_call (takes_of rfl rfl rfl rfl) (fun _ _ _ _ z => z)) (pa_cons (pv 0) (pa_cons (pv 2) pa_nil)))) pa_nil)))))), fun R k0 ds b hp hl hE => ?_⟩), m, F.kp, bi⟩
  obtain ⟨aa, ls, as, rfl, rfl, p, mm, rfl, h1, hm, hb⟩ := hp
  have SB : SubR ⟨K, strm aa ls, k0, H, true, fun _ => none⟩ (strm aa ls) := SubR.self rfl
  refine ws_ret (we_callR SB (X := fun _ _ _ _ => False) xok0 (wl_cons (we_var rfl (wl_cons (we_var rfl (wl_cons (we_op (we_int ?_))))))))
  refine we_drawE SB (by rfl) (we_var rfl ⟨mm, rfl, by omega, by omega, by first | omega | (dsimp only; omega), fun z z1 z2 => ?_⟩)
  refine rd_add_int (wl_nil ?_)
  refine ⟨rfl, ⟨aa, ls, _, rfl, rfl, p, 1 + z, rfl, h1, ⟨by omega, by omega⟩, by first | omega | (dsimp only; omega)⟩, ?_, fun _ _ _ _ z => z⟩
  rintro d' b' ⟨a2, as2, e2, p', m', lt, e3, rfl, lok, hb'⟩
  cases e2
  injection e3 with e3 e4
  injection e3 with e3
  injection e4 with e4 _
  injection e4 with e4
  subst e3 e4
  exact ⟨aa, _, rfl, p, mm, lt, rfl, rfl, ⟨lok.ok, by have := lok.few; omega, lok.small⟩, by first | omega | (dsimp only at hb' ⊢; omega)⟩
end
end K10

set_option Elab.async false
set_option linter.all false
set_option maxRecDepth 100000
set_option maxHeartbeats 4000000
namespace K10
open PySem PySem.Spec PyProof.Rows L2 DL
/-! twenty coins -/
theorem cut_deep {p : Int} {R : List (Int × Int)} (h : RowsL p R) : (R.filter fun r => !((lessR R).drop 1).any fun y => decide (y = r)) = cutR R := by
  rcases cutR_cases h with ⟨e, n⟩ | ⟨x, y, exy, o, hx, hy, ne, v, e⟩
  · have l1 := (less_rows h).1
    have l3 := two_most l1 (less_rows h).2
    have l4 : (lessR R).drop 1 = [] := by
      apply Classical.byContradiction
      intro hne
      have hl : (lessR R).length = 2 := by
        have : ((lessR R).drop 1).length ≠ 0 := fun z => hne (List.length_eq_zero_iff.mp z)
        rw [List.length_drop] at this
        omega
      match q : lessR R, hl with
      | [x, y], _ =>
        have mx : x ∈ lessR R := by rw [q]; simp
        have my : y ∈ lessR R := by rw [q]; simp
        have u : Ux (lessR R) := l1.ux
        rw [q] at u
        have u' : [x.2, y.2].Nodup := u
        simp only [List.nodup_cons, List.mem_singleton, List.not_mem_nil, not_false_iff, true_and, List.nodup_nil] at u'
        have u' : x.2 ≠ y.2 := by first | exact u' | exact u'.1
        have a1 := (less_rows h).2 x mx
        have a2 := (less_rows h).2 y my
        have b1 := l1.rs x mx
        have b2 := l1.rs y my
        have ix := List.mem_map_of_mem (f := (·.2)) (List.mem_filter.mp mx).1
        have iy := List.mem_map_of_mem (f := (·.2)) (List.mem_filter.mp my).1
        have hv : (x.2 = 0 ∧ y.2 = 1) ∨ (x.2 = 1 ∧ y.2 = 0) := by omega
        rcases hv with ⟨v1, v2⟩ | ⟨v1, v2⟩
        · exact n ⟨by rw [← v1]; exact ix, by rw [← v2]; exact iy⟩
        · exact n ⟨by rw [← v2]; exact iy, by rw [← v1]; exact ix⟩
    rw [e, l4]
    exact List.filter_eq_self.mpr fun r _ => rfl
  · rw [e, exy]
    refine List.filter_congr fun r _ => ?_
    show (!(decide (y = r) || false)) = !decide (r = y)
    rw [Bool.or_false]
    congr 1
    exact decide_eq_decide.mpr ⟨Eq.symm, Eq.symm⟩
theorem top_fits {p : Int} (hp : isPrm p = true) {d : Nat} {C : List (Int × Int)} (h : RowsL p C) (nb : ¬ (0 ∈ C.map (·.2) ∧ 1 ∈ C.map (·.2))) :
    topR p d C = if fitsB p d ((C.take d).map (·.2)) = true then C.take d else C.take (d - 1) ++ (C.drop d).take 1 := by
  obtain ⟨p1, p2⟩ := prm_le hp
  have hs := h.sub (List.take_sublist d C)
  have nb2 : ¬ (0 ∈ (C.take d).map (·.2) ∧ 1 ∈ (C.take d).map (·.2)) := fun z => nb ⟨((List.take_sublist d C).map _).subset z.1, ((List.take_sublist d C).map _).subset z.2⟩
  unfold topR
  by_cases q : (C.take d).length = d ∧ shutB p ((C.take d).map (·.2)) = true
  · rw [if_pos q, if_neg]
    intro f
    have q2 := q.2
    rw [shut_eq (by omega)] at q2
    rcases (fits_eq hp hs.res).mp f with f | f
    · exact f (of_decide_eq_true q2)
    · have := f.1
      rw [List.length_map] at this
      omega
  · rw [if_neg q, if_pos]
    refine (fits_eq hp hs.res).mpr ?_
    by_cases e1 : (C.take d).length = d
    · left
      intro z
      exact q ⟨e1, by rw [shut_eq (by omega), decide_eq_true z]⟩
    · right
      exact ⟨by rw [List.length_map]; rw [List.length_take] at e1 ⊢; omega, nb2⟩
theorem sum_neg (C : List (Int × Int)) : (C.map fun r => 0 - r.1).sum = -sumF C := by
  induction C with
  | nil => rfl
  | cons r C ih =>
    rw [List.map_cons, List.sum_cons, ih, sumF_cons]
    omega
structure RowOk (p : Int) (d : Nat) (row : List Int) : Prop where
  len : row.length = d + 1
  bd : ∀ y ∈ row, 0 ≤ y ∧ y < p
theorem row_ok {p : Int} (hp : isPrm p = true) {d : Nat} {zs : List Int} {far : Int} (h : FitW p d zs) : RowOk p d (padL (d + 1) (rowW p zs far)) := by
  obtain ⟨p1, p2⟩ := prm_le hp
  refine ⟨len_pad (rowW_len hp h), fun y hy => ?_⟩
  rcases List.mem_append.mp hy with hy | hy
  · exact bare_mem (by omega) y hy
  · rw [(List.mem_replicate.mp hy).2]
    omega
/-- what the program tells -/
theorem heav_eq {A : Ad} {p : Int} {d : Nat} {L : D} {cs : List (Int × Int)} (h1 : isPrm p = true) (h2 : d ≤ 20) (hd : 1 ≤ d) (h3 : CnsL p L cs) : gHeav A [.int p, .int (d : Int), L] = some (.ret (.tup [pD (lowI (bestW p d cs) (wsum cs)), iL (bestN p d cs)])) := by
  rw [gHeav_eq h1 h2 h3]
  unfold heavO
  rw [bestO_eq hd]
theorem wrong_eq {A : Ad} {p : Int} {d : Nat} {L : D} {cs : List (Int × Int)} {far : Int} (h1 : isPrm p = true) (h2 : d ≤ 20) (hd : 1 ≤ d) (h3 : CnsL p L cs) (h4 : far % p ≠ 0) (h5 : -1000000 ≤ far ∧ far ≤ 1000000) :
    ∃ row, gWrong A [.int p, .int (d : Int), L, .int far] = some (.ret (iL row)) ∧ RowOk p d row ∧ WrongOk p (bestN p d cs) far row := by
  have B := best_ok h1 hd h3.ok
  have fw := B.fit.toW h1 B.res B.few
  refine ⟨padL (d + 1) (rowW p (bestN p d cs) far), ?_, row_ok h1 fw, wrong_ok h1 h4 fw⟩
  rw [gWrong_eq h1 h2 h3 h4 h5 fun W ns e => by
    rw [bestO_eq hd] at e
    injection e with e
    injection e with _ e
    rw [← e]
    exact fw]
  unfold wrongO
  rw [bestO_eq hd]
def zerosL (p : Int) (row : List Int) : List Int := (rngI p.toNat).filter fun n => decide (ww p n row = 0)
def wIn (p : Int) (zs : List Int) (cs : List (Int × Int)) : List Int := (cs.filter fun c => decide (c.1 % p ∈ zs)).map (·.2)
theorem wIn_sum {p : Int} {zs : List Int} {cs : List (Int × Int)} : (wIn p zs cs).sum = wsum (cs.filter fun c => decide (c.1 % p ∈ zs)) := rfl
theorem zeros_sum {p : Int} (hp : 0 < p) {cs : List (Int × Int)} {row : List Int} : (wIn p (zerosL p row) cs).sum = wsum (cs.filter fun c => decide (ww p (c.1 % p) row = 0)) := by
  rw [wIn_sum]
  congr 1
  refine List.filter_congr fun c _ => ?_
  refine decide_eq_decide.mpr ?_
  unfold zerosL
  rw [List.mem_filter]
  have a := Int.emod_nonneg c.1 (show p ≠ 0 by omega)
  have b := Int.emod_lt_of_pos c.1 hp
  have m : c.1 % p ∈ rngI p.toNat := by
    unfold rngI
    refine List.mem_map.mpr ⟨(c.1 % p).toNat, List.mem_range.mpr (by omega), by omega⟩
  constructor
  · exact fun z => of_decide_eq_true z.2
  · exact fun z => ⟨m, decide_eq_true z⟩
theorem any_iLm {l : List Int} {x : Int} : ((l.map D.int).any fun y => eqF y (.int x)) = decide (x ∈ l) := any_iL
def inT (p : Int) (zs : List Int) : D → Bool
  | .tup [.int a, .int _] => decide (a % p ∈ zs)
  | _ => false
theorem shaped_iL2 {a b : Int} : SeqAt.shaped (iL [a, b]).toPy = true := by
  simp [SeqAt.shaped, D.toPy, toPyL, PyData.canLay0, PyData.canLayAll0, PyData.depth, PyData.depthAll]
theorem eqv_iL2 {a b : Int} : PyData.eqv (iL [a, b]).toPy (iL [a, b]).toPy = true := by
  simp [D.toPy, toPyL, PyData.eqv, PyData.eqvAll]
end K10

set_option Elab.async false
set_option linter.all false
set_option maxRecDepth 100000
set_option maxHeartbeats 4000000
namespace K10
open PySem PySem.Spec PyProof.Rows L2 DL
/-! all rows, plain -/
theorem ev_small {p n : Int} : ∀ {l : List Int}, (∀ k, Cong p (l.getD k 0) 0) → Cong p (ev n l) 0
  | [], _ => Cong.refl p 0
  | x :: r, h => by
    have h0 : Cong p x 0 := h 0
    have h1 := ev_small (n := n) (l := r) fun k => h (k + 1)
    rw [ev_cons]
    have z := h0.add ((Cong.refl p n).mul h1)
    rw [Int.mul_zero, Int.add_zero] at z
    exact z
def qual (p : Int) (r : List Int) : Bool := !decide ((ww p 0 r + ww p 1 r) % p = 0)
theorem ww_ev {p n : Int} {r : List Int} (hp : 0 < p) (h0 : 0 ≤ n) (h1 : n < p) : Cong p (ww p n r) (ev n r) := by
  have e := worth_ww (p := p) (n := n) hp r
  rw [Int.emod_eq_of_lt h0 h1] at e
  rw [← e]
  exact worth_ev r
theorem qual_ev {p : Int} {r : List Int} (hp : 1 < p) (q : qual p r = true) : ¬ Cong p (ev 0 r + ev 1 r) 0 := fun c => by
  have c0 := ww_ev (p := p) (n := 0) (r := r) (by omega) (by omega) (by omega)
  have c1 := ww_ev (p := p) (n := 1) (r := r) (by omega) (by omega) (by omega)
  have z := ((c0.add c1).trans c).eq
  rw [Int.zero_emod] at z
  unfold qual at q
  rw [decide_eq_true z] at q
  exact Bool.noConfusion q
theorem row_fit {p : Int} (hp : isPrm p = true) {d : Nat} {r : List Int} (h : RowOk p d r) (q : qual p r = true) {zs : List Int} (hz : ∀ z ∈ zs, (0 ≤ z ∧ z < p) ∧ ww p z r = 0) (nd : zs.Nodup) : zs.length ≤ d ∧ Fit p d zs := by
  obtain ⟨p1, p2⟩ := prm_le hp
  have nq := qual_ev (by omega) q
  have hl := h.len
  have nd' : (zs.map fun z => z % p).Nodup := by rw [map_mod fun y hy => (hz y hy).1]; exact nd
  have ez : ∀ z ∈ zs, Cong p (ev z r) 0 := fun z hz' => by
    have c := ww_ev (p := p) (n := z) (r := r) (by omega) (hz z hz').1.1 (hz z hz').1.2
    rw [(hz z hz').2] at c
    exact c.symm
  have l1 : zs.length ≤ d := by
    apply Classical.byContradiction
    intro n
    have m := many_roots hp zs r (fun k hk => getD_out (by omega)) nd' ez
    have z := (ev_small (n := 0) m).add (ev_small (n := 1) m)
    exact nq z
  refine ⟨l1, ?_⟩
  by_cases hb : bothR p zs = 0
  · refine .inr ⟨?_, fun ⟨z0, z1⟩ => nq ((ez 0 z0).add (ez 1 z1))⟩
    apply Classical.byContradiction
    intro n
    have hd : zs.length = d := by omega
    have M := rooted_monic (by omega : 1 < p) zs
    have ml := M.len
    have mt := M.top
    rw [hd] at ml mt
    have m := many_roots hp zs (addL r ((rootedP p zs).map fun x => x * (-(r.getD d 0)))) (fun k hk => ?_) nd' (fun z hz' => ?_)
    · have all : ∀ n, Cong p (ev n r) (prodR n zs * r.getD d 0) := fun n => by
        have c := ev_small (n := n) m
        rw [ev_addL, ev_scale] at c
        have c2 := ((rooted_ev (p := p) (n := n) (by omega) zs).mul (Cong.refl p (-(r.getD d 0))))
        have c3 := (((Cong.refl p (ev n r)).add c2).symm.trans c).add (Cong.refl p (prodR n zs * r.getD d 0))
        have e : ev n r + prodR n zs * -(r.getD d 0) + prodR n zs * r.getD d 0 = ev n r := by grind
        rw [e, Int.zero_add] at c3
        exact c3
      have c := (all 0).add (all 1)
      have e : prodR 0 zs * r.getD d 0 + prodR 1 zs * r.getD d 0 = (prodR 0 zs + prodR 1 zs) * r.getD d 0 := by grind
      rw [e] at c
      have c2 : Cong p (prodR 0 zs + prodR 1 zs) 0 := .of_mod (by rw [Int.zero_emod]; exact hb)
      have c3 := c.trans (c2.mul (Cong.refl p _))
      rw [Int.zero_mul] at c3
      exact nq c3
    · rw [add_getD, scale_getD]
      by_cases hk2 : k = d
      · rw [hk2, mt]
        grind
      · rw [getD_out (by omega), getD_out (by omega)]
        grind
    · rw [ev_addL, ev_scale]
      have c2 := ((rooted_ev (p := p) (n := z) (by omega) zs).trans (prodR_zero hz' rfl)).mul (Cong.refl p (-(r.getD d 0)))
      have c := (ez z hz').add c2
      rw [Int.zero_mul, Int.add_zero] at c
      exact c
  · exact .inl hb
def hereW (p : Int) (cs : List (Int × Int)) (r : List Int) : Int := wsum (cs.filter fun c => decide (ww p (c.1 % p) r = 0))
theorem row_most {p : Int} (hp : isPrm p = true) {d : Nat} (hd : 1 ≤ d) {cs : List (Int × Int)} (hc : CnsOk p cs) {r : List Int} (h : RowOk p d r) (q : qual p r = true) : hereW p cs r ≤ bestW p d cs := by
  obtain ⟨p1, p2⟩ := prm_le hp
  obtain ⟨f1, f2⟩ := row_fit hp h q (zs := (cs.filter fun c => decide (ww p (c.1 % p) r = 0)).map fun c => c.1 % p) (fun z hz => by
    obtain ⟨c, hc', rfl⟩ := List.mem_map.mp hz
    exact ⟨⟨Int.emod_nonneg _ (by omega), Int.emod_lt_of_pos _ (by omega)⟩, of_decide_eq_true (List.mem_filter.mp hc').2⟩) (List.Nodup.sublist (List.filter_sublist.map _) hc.nd)
  rw [List.length_map] at f1
  exact best_most hp hd hc List.filter_sublist f1 f2
def rowsL (p : Int) : Nat → List (List Int)
  | 0 => [[]]
  | n + 1 => (rowsL p n).flatMap fun r => (rngI p.toNat).map fun x => r ++ [x]
theorem rngI_iff {p x : Int} (hp : 0 ≤ p) : x ∈ rngI p.toNat ↔ 0 ≤ x ∧ x < p := by
  constructor
  · intro h
    have := rngI_mem h
    omega
  · intro h
    unfold rngI
    exact List.mem_map.mpr ⟨x.toNat, List.mem_range.mpr (by omega), by omega⟩
theorem rowsL_mem {p : Int} (hp : 0 ≤ p) : ∀ {n : Nat} {r : List Int}, r ∈ rowsL p n ↔ r.length = n ∧ ∀ y ∈ r, 0 ≤ y ∧ y < p
  | 0, r => by
    show r ∈ [[]] ↔ _
    rw [List.mem_singleton]
    constructor
    · rintro rfl
      exact ⟨rfl, fun _ h => absurd h (by simp)⟩
    · exact fun h => List.length_eq_zero_iff.mp h.1
  | n + 1, r => by
    show r ∈ (rowsL p n).flatMap (fun r => (rngI p.toNat).map fun x => r ++ [x]) ↔ _
    rw [List.mem_flatMap]
    constructor
    · rintro ⟨s, hs, hr⟩
      obtain ⟨x, hx, rfl⟩ := List.mem_map.mp hr
      obtain ⟨h1, h2⟩ := (rowsL_mem hp).mp hs
      refine ⟨by rw [List.length_append, h1]; rfl, fun y hy => ?_⟩
      rcases List.mem_append.mp hy with hy | hy
      · exact h2 y hy
      · rw [List.mem_singleton.mp hy]
        exact (rngI_iff hp).mp hx
    · rintro ⟨h1, h2⟩
      have hne : r ≠ [] := fun z => by rw [z] at h1; cases h1
      have ed := List.dropLast_concat_getLast hne
      refine ⟨r.dropLast, (rowsL_mem hp).mpr ⟨by rw [List.length_dropLast, h1]; rfl, fun y hy => h2 y ((List.dropLast_sublist r).subset hy)⟩, List.mem_map.mpr ⟨r.getLast hne, (rngI_iff hp).mpr (h2 _ (List.getLast_mem hne)), ed⟩⟩
theorem rowsL_len {p : Int} : ∀ n, (rowsL p n).length = p.toNat ^ n
  | 0 => rfl
  | n + 1 => by
    show ((rowsL p n).flatMap (fun r => (rngI p.toNat).map fun x => r ++ [x])).length = _
    have e : ∀ l : List (List Int), (l.flatMap (fun r => (rngI p.toNat).map fun x => r ++ [x])).length = l.length * p.toNat := fun l => by
      induction l with
      | nil => simp
      | cons x l ih =>
        rw [List.flatMap_cons, List.length_append, ih, List.length_map, List.length_cons]
        have : (rngI p.toNat).length = p.toNat := by unfold rngI; rw [List.length_map, List.length_range]
        rw [this, Nat.succ_mul, Nat.add_comm]
    rw [e, rowsL_len n, Nat.pow_succ]
theorem rowsL_ok {p : Int} (hp : 0 ≤ p) {d : Nat} {r : List Int} : r ∈ rowsL p (d + 1) ↔ RowOk p d r := by
  rw [rowsL_mem hp]
  exact ⟨fun h => ⟨h.1, h.2⟩, fun h => ⟨h.len, h.bd⟩⟩
def bwS (p : Int) (cs : List (Int × Int)) (f : Option Int) (r : List Int) : Option Int :=
  if qual p r = true then some (match f with | none => hereW p cs r | some f => if hereW p cs r > f then hereW p cs r else f) else f
def bwO (p : Int) (d : Nat) (cs : List (Int × Int)) : Option Int := (rowsL p (d + 1)).foldl (bwS p cs) none
theorem bw_spec {p : Int} {cs : List (Int × Int)} : ∀ (rows : List (List Int)) (f : Option Int),
    (∀ r ∈ rows, qual p r = true → ∃ m, rows.foldl (bwS p cs) f = some m ∧ hereW p cs r ≤ m) ∧ (∀ m0, f = some m0 → ∃ m, rows.foldl (bwS p cs) f = some m ∧ m0 ≤ m) ∧
    (∀ m, rows.foldl (bwS p cs) f = some m → f = some m ∨ ∃ r ∈ rows, qual p r = true ∧ hereW p cs r = m)
  | [], f => ⟨fun _ h => absurd h (by simp), fun m h => ⟨m, h, Int.le_refl _⟩, fun m h => .inl h⟩
  | x :: rows, f => by
    obtain ⟨a, b, c⟩ := bw_spec (p := p) (cs := cs) rows (bwS p cs f x)
    have g1 : ∀ m0, f = some m0 → ∃ m, bwS p cs f x = some m ∧ m0 ≤ m := fun m0 e => by
      subst e
      unfold bwS
      split
      · refine ⟨_, rfl, ?_⟩
        dsimp only
        split <;> omega
      · exact ⟨m0, rfl, Int.le_refl _⟩
    have g2 : qual p x = true → ∃ m, bwS p cs f x = some m ∧ hereW p cs x ≤ m := fun q => by
      unfold bwS
      rw [if_pos q]
      refine ⟨_, rfl, ?_⟩
      cases f with
      | none => exact Int.le_refl _
      | some f => dsimp only; split <;> omega
    have g3 : ∀ m, bwS p cs f x = some m → f = some m ∨ (qual p x = true ∧ hereW p cs x = m) := fun m e => by
      unfold bwS at e
      split at e
      · rename_i q
        cases f with
        | none =>
          injection e with e
          exact .inr ⟨q, e⟩
        | some f =>
          dsimp only at e
          injection e with e
          split at e
          · exact .inr ⟨q, e⟩
          · exact .inl (by rw [e])
      · exact .inl e
    refine ⟨fun r hr q => ?_, fun m0 e => ?_, fun m e => ?_⟩
    · rcases List.mem_cons.mp hr with rfl | hr
      · obtain ⟨m1, e1, l1⟩ := g2 q
        obtain ⟨m2, e2, l2⟩ := b m1 e1
        exact ⟨m2, e2, by omega⟩
      · exact a r hr q
    · obtain ⟨m1, e1, l1⟩ := g1 m0 e
      obtain ⟨m2, e2, l2⟩ := b m1 e1
      exact ⟨m2, e2, by omega⟩
    · rcases c m e with e | ⟨r, hr, q, e⟩
      · rcases g3 m e with e | ⟨q, e⟩
        · exact .inl e
        · exact .inr ⟨x, List.mem_cons_self, q, e⟩
      · exact .inr ⟨r, List.mem_cons_of_mem _ hr, q, e⟩
/-- a row that has the best weight -/
theorem row_best {p : Int} (hp : isPrm p = true) {d : Nat} (hd : 1 ≤ d) (hd2 : d ≤ 20) {cs : List (Int × Int)} (hc : CnsOk p cs) : ∃ r, RowOk p d r ∧ qual p r = true ∧ hereW p cs r = bestW p d cs ∧ ∀ n ∈ bestN p d cs, ww p n r = 0 := by
  obtain ⟨p1, p2⟩ := prm_le hp
  have h1 : (1 : Int) % p ≠ 0 := by rw [Int.emod_eq_of_lt (by omega) (by omega)]; omega
  obtain ⟨row, _, rok, wok⟩ := wrong_eq (A := ⟨0, 0, 0, 0, 0, 0, 0, 0, 0, 0, 0⟩) (L := cnsD cs) (far := 1) hp hd2 hd (cnsL_pD hc) h1 (by omega)
  refine ⟨row, rok, ?_, zero_weight hp hd hc wok, fun n hn => ?_⟩
  · unfold qual
    rw [decide_eq_false]
    · rfl
    · intro e
      have c1 : Cong p (ww p 0 row + ww p 1 row - 1) 0 := .of_mod (by rw [Int.zero_emod]; exact wok.far)
      have c2 : Cong p (ww p 0 row + ww p 1 row) 0 := .of_mod (by rw [Int.zero_emod]; exact e)
      have z := (c2.sub c1).eq
      have e2 : ww p 0 row + ww p 1 row - (ww p 0 row + ww p 1 row - 1) = 1 := by omega
      rw [e2, Int.sub_zero, Int.zero_emod] at z
      exact h1 z
  · have B := best_ok hp hd hc
    obtain ⟨b1, b2⟩ := B.res n hn
    refine (wok.zero n b1 b2).mpr (.inl ?_)
    exact (prod_zero hp B.res b1 b2).mpr hn
theorem ww_one {p n a : Int} (h0 : 0 ≤ a) (h1 : a < p) : ww p n [a] = a := by
  show (0 + a * 1) % p = a
  rw [Int.zero_add, Int.mul_one, Int.emod_eq_of_lt h0 h1]
theorem bwO_eq {p : Int} (hp : isPrm p = true) {d : Nat} (hd2 : d ≤ 20) {cs : List (Int × Int)} (hc : CnsOk p cs) : bwO p d cs = (bestO p d cs).map (·.1) := by
  obtain ⟨p1, p2⟩ := prm_le hp
  obtain ⟨a, _, c⟩ := bw_spec (p := p) (cs := cs) (rowsL p (d + 1)) none
  have eb : bwO p d cs = (rowsL p (d + 1)).foldl (bwS p cs) none := rfl
  rw [← eb] at a c
  by_cases hd : 1 ≤ d
  · rw [bestO_eq hd]
    obtain ⟨r, rok, q, hw, _⟩ := row_best hp hd hd2 hc
    obtain ⟨m, e, l⟩ := a r ((rowsL_ok (by omega)).mpr rok) q
    rcases c m e with z | ⟨r2, h2, q2, e2⟩
    · cases z
    · have u := row_most hp hd hc ((rowsL_ok (by omega)).mp h2) q2
      rw [e]
      show some m = some (bestW p d cs)
      congr 1
      omega
  · have e0 : d = 0 := by omega
    subst e0
    have one : ∀ r, RowOk p 0 r → ∃ a, r = [a] ∧ 0 ≤ a ∧ a < p := fun r h => by
      have hl := h.len
      match r, hl with
      | [a], _ => exact ⟨a, rfl, h.bd a (by simp)⟩
    by_cases h2 : p = 2
    · have en : bestO p 0 cs = none := by unfold bestO; rw [if_pos rfl, if_pos h2]
      rw [en]
      cases g : bwO p 0 cs with
      | none => rfl
      | some m =>
        rcases c m g with z | ⟨r, hr, q, e⟩
        · cases z
        · obtain ⟨x, rfl, x0, x1⟩ := one r ((rowsL_ok (by omega)).mp hr)
          unfold qual at q
          rw [ww_one x0 x1, ww_one x0 x1, decide_eq_true (by subst h2; omega)] at q
          cases q
    · have en : bestO p 0 cs = some (0, []) := by unfold bestO; rw [if_pos rfl, if_neg h2]
      rw [en]
      have q1 : qual p [1] = true := by
        unfold qual
        rw [ww_one (by omega) (by omega), ww_one (by omega) (by omega), decide_eq_false]
        · rfl
        · rw [show (1 : Int) + 1 = 2 from rfl, Int.emod_eq_of_lt (by omega) (by omega)]
          omega
      obtain ⟨m, e, l⟩ := a [1] ((rowsL_ok (by omega)).mpr ⟨rfl, fun y hy => by rw [List.mem_singleton.mp hy]; omega⟩) q1
      have zero : ∀ r, RowOk p 0 r → qual p r = true → hereW p cs r = 0 := fun r h q => by
        obtain ⟨x, rfl, x0, x1⟩ := one r h
        have nx : x ≠ 0 := fun z => by
          subst z
          unfold qual at q
          rw [ww_one x0 x1, ww_one x0 x1, decide_eq_true (by simp)] at q
          cases q
        unfold hereW
        have ef : (cs.filter fun c => decide (ww p (c.1 % p) [x] = 0)) = [] := List.filter_eq_nil_iff.mpr fun c _ => by
          rw [ww_one x0 x1, decide_eq_false nx]
          exact Bool.false_ne_true
        rw [ef]
        rfl
      rcases c m e with z | ⟨r2, h2, q2, e2⟩
      · cases z
      · rw [zero r2 ((rowsL_ok (by omega)).mp h2) q2] at e2
        rw [e, ← e2]
        rfl
end K10

set_option Elab.async false
set_option linter.all false
set_option maxRecDepth 100000
set_option maxHeartbeats 4000000
namespace K10
open PySem PySem.Spec PyProof.Rows L2 DL
section
variable {P : Program} {w : World} {K : PySem.W.Frag} {mg : Str → Option Value} {base : Heap} {A : Ad}
local macro_rules | `(tactic| walk_at "s0") => `(tactic| with_reducible first
  | refine ws_seq ?_ | refine ws_next ?_ | refine ws_ret ?_ | refine ws_retN ?_ | refine ws_if ?_ | refine ws_asg ?_ | refine ws_drop ?_ | refine ws_par ?_ | refine ws_break ?_ | refine ws_cont ?_
  | refine we_var rfl ?_ | refine we_int ?_ | refine we_non ?_ | refine we_bl ?_ | refine we_str ?_ | refine we_ty ?_ | refine we_dnew ?_ | refine we_op ?_ | refine we_un ?_
  | refine we_and ?_ | refine we_or ?_ | refine we_not ?_ | refine we_if ?_ | refine we_chain ?_ | refine we_cb ?_ | refine we_tup ?_ | refine we_lst ?_
  | refine wl_cons ?_ | refine wl_nil ?_ | refine wt_B ?_ | refine wt_test ?_ | refine wt_and ?_ | refine wt_or ?_ | refine wt_not ?_ | refine wt_yes ?_
  | refine wi_tup ?_ | refine wi_list ?_ | refine wg_tup rfl ?_ | refine wgs_cons ?_ | refine wgs_nil ?_
  | refine rd_add_int ?_ | refine rd_sub ?_ | refine rd_lt ?_ | refine rd_le ?_ | refine rd_gt ?_ | refine rd_ge ?_ | refine rd_eq_int ?_ | refine rd_ne_int ?_ | refine rd_eq_str ?_ | refine rd_ne_str ?_ | refine rd_eq_bl ?_ | refine rd_ne_bl ?_ | refine rd_is ?_ | refine rd_is_bl ?_ | refine rd_isnot ?_ | refine ru_neg ?_
  | refine rc_int ?_ | refine rc_abs ?_ | refine rc_anyF ?_ | refine rc_allF ?_
  | refine brT ?_ | refine brF ?_ | refine brT' ?_ | refine brF' ?_
  | refine ⟨_, rfl, ?_⟩)
set_option hygiene false in
local macro_rules | `(tactic| walk_at "s1") => `(tactic| first
  | refine we_isiLT ?_ | refine we_isiILT ?_ | refine wi_seqV (by rfl) (by rfl) ?_ | walk_at "s0" | refine ⟨true, by rfl, ?_⟩ | refine ⟨false, by rfl, ?_⟩ | refine we_ref ?_ | refine we_fld1 ?_ | refine ⟨_, _, _, _, rfl, T.n_Poly_prime, by rfl, ?_⟩ | refine ⟨_, _, _, _, rfl, T.n_Poly_row, by rfl, ?_⟩ | refine rc_isiB (r := true) (by rfl) ?_ | refine rc_isiO T.k_Poly ?_ | refine rc_isiN T.k_Poly (by rfl) ?_ | refine we_callF (by assumption) ?_ | refine we_callF (X := fun _ _ _ _ => False) xok0 ?_ | refine we_callFl (by assumption) ?_ | refine we_callFl (X := fun _ _ _ _ => False) xok0 ?_ | refine we_makeFl (by assumption) ?_ | refine we_makeFl (X := fun _ _ _ _ => False) xok0 ?_ | refine we_makeF (by assumption) ?_ | refine we_makeF (X := fun _ _ _ _ => False) xok0 ?_ | refine DX.ws_rs (by assumption) ?_ | refine wt_test ?_ | refine co_ret rfl (by rfl) ?_ | refine wg_nm (by rfl) ?_ | refine parB (by rfl) (by rfl) ?_ | refine szB (by rfl) ?_ | refine szL (by rfl) ?_ | refine brT2 (by rfl) ?_ | refine brF2 (by rfl) ?_ | refine brT3 (by rfl) ?_ | refine brF3 (by rfl) ?_ | refine rc_isiB (r := false) (by rfl) ?_)
/-! all rows, the best worth: walked -/
theorem pow_few {p i : Nat} (hp : p ≤ 5) (hi : i ≤ 4) : p ^ i ≤ 625 := Nat.le_trans (Nat.pow_le_pow_left hp i) (Nat.le_trans (Nat.pow_le_pow_right (by decide) hi) (by decide))
def extL (p : Int) (r : List Int) : List (List Int) := (rngI p.toNat).map fun x => r ++ [x]
theorem extL_len {p : Int} (r : List Int) : (extL p r).length = p.toNat := by
  unfold extL rngI
  rw [List.length_map, List.length_map, List.length_range]
theorem flat_len {p : Int} : ∀ l : List (List Int), (l.flatMap (extL p)).length = l.length * p.toNat
  | [] => by simp
  | x :: l => by rw [List.flatMap_cons, List.length_append, flat_len l, extL_len, List.length_cons, Nat.succ_mul, Nat.add_comm]
noncomputable def gRows : List D → Option Out := gOf (fun x : Int × Nat => [.int x.1, .int (x.2 : Int)]) (fun x => (2 ≤ x.1 ∧ x.1 ≤ 5) ∧ x.2 ≤ 4) fun x => .ret (.lst ((rowsL x.1 x.2).map iL))
theorem gRows_eq {p : Int} {n : Nat} (h1 : 2 ≤ p ∧ p ≤ 5) (h2 : n ≤ 4) : gRows [.int p, .int (n : Int)] = some (.ret (.lst ((rowsL p n).map iL))) :=
  gOf_eq (ar := fun x : Int × Nat => [.int x.1, .int (x.2 : Int)]) (x := (p, n)) (fun x y e => by
    injection e with e1 e
    injection e with e2 _
    injection e1 with e1
    injection e2 with e2
    exact Prod.ext e1 (Int.ofNat.inj e2)) ⟨h1, h2⟩
theorem get_rows {l : List (List Int)} {j : Nat} {d : D} (h : (l.map iL)[j]? = some d) : ∃ r, l[j]? = some r ∧ d = iL r := by
  rw [List.getElem?_map] at h
  cases e : l[j]? with
  | none => rw [e] at h; cases h
  | some c => rw [e] at h; cases h; exact ⟨c, rfl, rfl⟩
theorem ok_w_rows (T : Tx P K mg A) : CalX P w K mg base 1 "_law_w_rows" (SpS K 2 (spcF gRows)) := by
  obtain ⟨a, fd, F, m, bi⟩ := T.f__law_w_rows
  refine ⟨a, fd, _, fnS F sc__law_w_rows rfl (fun cdv A' outer sh H E hr => ⟨_, (pss_cons (ps_asg (pe_lst (pa_cons (pe_lst pa_nil) pa_nil)) (pg_name (i := 2) sc__law_w_rows.nd rfl (by first | exact .inl rfl | exact .inr rfl)))
  (pss_cons (ps_for (passes_of rfl) rfl (pi_range1 (by rfl) T.z_range (pa_cons (pv 1) pa_nil)) (pg_name (i := 3) sc__law_w_rows.nd rfl (by first | exact .inl rfl | exact .inr rfl))
  (pss_cons (ps_asg (pe_lst pa_nil) (pg_name (i := 4) sc__law_w_rows.nd rfl (by first | exact .inl rfl | exact .inr rfl)))
  (pss_cons (ps_for (passes_of rfl) rfl (DK.pi_seq (K := K) (pv 2)) (pg_name (i := 5) sc__law_w_rows.nd rfl (by first | exact .inl rfl | exact .inr rfl))
  (pss_one (ps_expr (pe_bm PySem.F.plainAttrs_list PySem.F.slot_list_extend PySem.F.type_list_extend mt_extend (pv 4) (pa_cons (pe_lc (own := [("_law_number", 6)]) (g := (gName 6)) (tt := tYes) rfl sc__law_w_rows.nd (pi_range1 (by rfl) T.z_range (pa_cons (pv 0) pa_nil)) (blkOk_by (own := [("_law_number", 6)]) (N := n__law_w_rows) (sc := (defScope s__law_w_rows)) (by first | decide +kernel | kernel_rfl)) (fun _ _ _ _ _ => (pg_name (i := 6) sc__law_w_rows.nd rfl (by first | exact .inl rfl | exact .inr rfl))) (fun _ _ _ _ _ => pts_nil) (fun _ _ _ _ _ => (pe_op (DK.op_add (K := K)) (pv 5) (pe_lst (pa_cons (pv 6) pa_nil))))) pa_nil)))))
  (pss_one (ps_asg (pv 4) (pg_name (i := 2) sc__law_w_rows.nd rfl (by first | exact .inl rfl | exact .inr rfl)))))))
  (pss_one (ps_ret (pv 2))))), fun R k0 ds b hp hl hE => ?_⟩), m, F.kp, bi⟩
  obtain ⟨o, ho⟩ := hp
  obtain ⟨⟨p, n⟩, rfl, ⟨⟨h1, h1'⟩, h2⟩, rfl⟩ := gOf_inv ho
  dsimp only at h1 h1' h2 ho hl ⊢
  refine ws_seq (ws_asg (we_lst (wl_cons (we_lst (wl_nil (szB rfl (wl_nil (szB rfl (wg_nm (by rfl) ?_)))))))))
  dsimp only [startD, List.map, List.append, List.replicate, List.set]
  have e0 : D.lst [.lst []] = .lst ((rowsL p 0).map iL) := rfl
  rw [e0]
  refine ws_seq (ws_for (wi_rng1 (wl_cons (we_var rfl (wl_nil ⟨(n : Int), rfl, by omega, by omega, ?_⟩)))))
  refine ⟨fun i ς => ∃ x3 x4 x5 x6, ς = { δ := [some (.int p), some (.int (n : Int)), some (.lst ((rowsL p i).map iL)), x3, x4, x5, x6], b := b }, ⟨_, _, _, _, rfl⟩, ?_, ?_⟩
  · rintro i d ς hi ⟨x3, x4, x5, x6, rfl⟩
    have hi4 : i < n := by have := (rngD_get hi).2; omega
    have hf : ∀ r ∈ rowsL p i, r.length = i := fun r hr => ((rowsL_mem (by omega)).mp hr).1
    have rl : (rowsL p i).length * p.toNat ≤ 625 := by
      rw [rowsL_len, ← Nat.pow_succ]
      exact pow_few (by omega) (by omega)
    have es : rowsL p (i + 1) = (rowsL p i).flatMap (extL p) := rfl
    dsimp only
    rw [es]
    clear es
    generalize rowsL p i = rows at hf rl
    refine wg_nm (by rfl) ?_
    dsimp only [List.set]
    refine ws_seq (ws_asg (we_lstM (wl_nil (szB rfl fun q nq => wg_nm (by rfl) ?_))))
    dsimp only [List.set]
    refine ws_seq (ws_for (wi_seqV rfl rfl ?_))
    refine ⟨fun j ς => ∃ x5 x6, ς = { δ := [some (.int p), some (.int (n : Int)), some (.lst (rows.map iL)), some d, some (.ref q), x5, x6], m := [(q, .lst (((rows.take j).flatMap (extL p)).map iL))], b := b }, ⟨_, _, rfl⟩, ?_, ?_⟩
    · rintro j e ς hj ⟨x5, x6, rfl⟩
      obtain ⟨r, hr, rfl⟩ := get_rows hj
      have lr := hf r (List.mem_of_getElem? hr)
      have lt : ((rows.take j).flatMap (extL p)).length ≤ 625 := by
        rw [flat_len, List.length_take]
        exact Nat.le_trans (Nat.mul_le_mul_right _ (Nat.min_le_right _ _)) rl
      refine wg_nm (by rfl) ?_
      dsimp only [List.set]
      refine ws_extend (j := 0) (o := q) (ds := ((rows.take j).flatMap (extL p)).map iL) (fun _ _ _ z => (nomatch z)) ?_
      refine we_var rfl ⟨rfl, ⟨_, rfl⟩, we_lcM (kg_name (by decide)) (wi_rng1 (wl_cons (we_var rfl (wl_nil ⟨p, rfl, by omega, by omega, ?_⟩))))⟩
      refine ⟨fun x => iL (r ++ [dI x]), lt_size (by rw [rngD_len]; omega), fun x hx oo acc => ?_, ?_⟩
      · obtain ⟨y, rfl, y1, y2⟩ := rng_mem hx
        refine wg_nm (by rfl) ?_
        dsimp only [List.set, wipeD]
        refine we_op (we_var rfl (we_lst (wl_cons (we_var rfl (wl_nil (szB rfl ?_))))))
        refine rd_add_lst (by rw [List.length_map, lr, sizeLine_eq]; show i + 1 ≤ _; omega) ⟨?_, rfl, rfl⟩
        show D.lst (r.map D.int ++ [.int y]) = D.lst ((r ++ [y]).map D.int)
        rw [List.map_append]
        rfl
      · have e : (rngD 0 p.toNat).map (fun x => iL (r ++ [dI x])) = (extL p r).map iL := by
          unfold extL
          rw [rngD_ints, List.map_map, List.map_map]
          rfl
        rw [e]
        refine ⟨_, rfl, rfl, by rw [List.length_map, List.length_map, extL_len, sizeLine_eq]; omega, ?_⟩
        dsimp only [List.set]
        rw [← List.map_append]
        have e2 : (rows.take j).flatMap (extL p) ++ extL p r = (rows.take (j + 1)).flatMap (extL p) := by
          rw [List.take_add_one, hr, List.flatMap_append]
          simp
        rw [e2]
        exact ⟨_, _, rfl⟩
    · rintro ς ⟨x5, x6, rfl⟩
      rw [List.length_map, List.take_length]
      refine ws_freeze (i := 4) (j := 0) rfl rfl rfl ?_
      dsimp only [List.set, List.eraseIdx]
      refine ws_asg (we_var rfl (wg_nm (by rfl) ?_))
      dsimp only [List.set]
      exact ⟨_, _, _, _, rfl⟩
  · rintro ς ⟨x3, x4, x5, x6, rfl⟩
    have e : (rngD 0 (n : Int).toNat).length = n := by rw [rngD_len]; rfl
    rw [e]
    exact ws_ret (we_var rfl ⟨ho, rfl⟩)
def oI : Option Int → D
  | none => .non
  | some m => .int m
def zeroT (p : Int) (row : List Int) : D → Bool
  | .tup [.int a, .int _] => decide (ww p (a % p) row = 0)
  | _ => false
theorem pdc_inj (x y : (Int × Nat) × List (Int × Int)) (e : [D.int x.1.1, .int (x.1.2 : Int), cnsD x.2] = [.int y.1.1, .int (y.1.2 : Int), cnsD y.2]) : x = y := by
  injection e with e1 e
  injection e with e2 e
  injection e with e3 _
  injection e1 with e1
  injection e2 with e2
  injection e3 with e3
  refine Prod.ext (Prod.ext e1 (Int.ofNat.inj e2)) ?_
  have f : ∀ l : List (Int × Int), (l.map pD).map (fun d => match d with | .tup [.int a, .int b] => (a, b) | _ => (0, 0)) = l := fun l => by
    rw [List.map_map]
    exact (List.map_congr_left fun _ _ => rfl).trans (List.map_id' l)
  rw [← f x.2, e3, f]
noncomputable def gBW : List D → Option Out := gOf (fun x : (Int × Nat) × List (Int × Int) => [.int x.1.1, .int (x.1.2 : Int), cnsD x.2]) (fun x => (2 ≤ x.1.1 ∧ x.1.1 ≤ 5) ∧ x.1.2 ≤ 3 ∧ x.2.length ≤ 200) fun x => .ret (oI (bwO x.1.1 x.1.2 x.2))
theorem gBW_eq {p : Int} {d : Nat} {cs : List (Int × Int)} (h1 : 2 ≤ p ∧ p ≤ 5) (h2 : d ≤ 3) (h3 : cs.length ≤ 200) : gBW [.int p, .int (d : Int), cnsD cs] = some (.ret (oI (bwO p d cs))) :=
  gOf_eq (ar := fun x : (Int × Nat) × List (Int × Int) => [.int x.1.1, .int (x.1.2 : Int), cnsD x.2]) (x := ((p, d), cs)) pdc_inj ⟨h1, h2, h3⟩
theorem foldl_take {α β : Type} {f : β → α → β} {b : β} {l : List α} {i : Nat} {x : α} (h : l[i]? = some x) : (l.take (i + 1)).foldl f b = f ((l.take i).foldl f b) x := by
  rw [List.take_add_one, h, List.foldl_append]
  rfl
theorem ok_w_best_worth (T : Tx P K mg A) : CalX P w K mg base 2 "_law_w_best_worth" (SpS K 3 (spcF gBW)) := by
  have c__law_w_rows := @ok_w_rows P w K mg base A T
  have c__law_w_worth := @ok_w_worth P w K mg base A T
  obtain ⟨a, fd, F, m, bi⟩ := T.f__law_w_best_worth
  refine ⟨a, fd, _, fnS F sc__law_w_best_worth rfl (fun cdv A' outer sh H E hr => ⟨_, (pss_cons (ps_asg pe_non (pg_name (i := 3) sc__law_w_best_worth.nd rfl (by first | exact .inl rfl | exact .inr rfl)))
  (pss_cons (ps_for (passes_of rfl) rfl (DK.pi_seq (K := K) (pe_cx c__law_w_rows hr (by omega) (by rfl) (passes_call (takes_of rfl rfl rfl rfl) (fun _ _ _ _ z => z)) (pa_cons (pv 0) (pa_cons (pe_op (DK.op_add (K := K)) (pv 1) pe_int) pa_nil)))) (pg_name (i := 4) sc__law_w_best_worth.nd rfl (by first | exact .inl rfl | exact .inr rfl))
  (pss_one (ps_if (pt_cmpR (DK.op_ne (K := K) (hr.units)) (pe_op op_modK (pe_op (DK.op_add (K := K)) (pe_cx c__law_w_worth hr (by omega) (by rfl) (passes_call (takes_of rfl rfl rfl rfl) (fun _ _ _ _ z => z)) (pa_cons (pv 4) (pa_cons pe_int (pa_cons (pv 0) pa_nil)))) (pe_cx c__law_w_worth hr (by omega) (by rfl) (passes_call (takes_of rfl rfl rfl rfl) (fun _ _ _ _ z => z)) (pa_cons (pv 4) (pa_cons pe_int (pa_cons (pv 0) pa_nil))))) (pv 0)) pe_int (nomark _))
  (pss_cons (ps_asg (pe_callB (DK.sum (K := K)) (by rfl) T.z_sum (by decide +kernel) (pa_cons (pe_lc (own := [("_law_number", 6), ("_law_weight_here", 7)]) (g := (gTup K 2 (gCons (gName 6) (gCons (gName 7) gNil)))) rfl sc__law_w_best_worth.nd (DK.pi_seq (K := K) (pv 2)) (blkOk_by (own := [("_law_number", 6), ("_law_weight_here", 7)]) (N := n__law_w_best_worth) (sc := (defScope s__law_w_best_worth)) (by first | decide +kernel | kernel_rfl)) (fun _ _ _ _ _ => (DK.pg_tup (K := K) rfl (pgs_cons (pg_name (i := 6) sc__law_w_best_worth.nd rfl (by first | exact .inl rfl | exact .inr rfl)) (pgs_cons (pg_name (i := 7) sc__law_w_best_worth.nd rfl (by first | exact .inl rfl | exact .inr rfl)) pgs_nil)))) (fun _ _ _ _ _ => (pts_one (pt_cmpR (DK.op_eq (K := K) (hr.units)) (pe_cx c__law_w_worth hr (by omega) (by rfl) passL (pa_cons (pv 4) (pa_cons (pe_op op_modK (pe_callTy call_intK (by rfl) T.z_int (by decide +kernel) (pa_cons (pv 6) pa_nil)) (pv 0)) (pa_cons (pv 0) pa_nil)))) pe_int (nomark _)))) (fun _ _ _ _ _ => (pv 7))) pa_nil)) (pg_name (i := 5) sc__law_w_best_worth.nd rfl (by first | exact .inl rfl | exact .inr rfl)))
  (pss_one (ps_asg (pe_ifExp (pt_cmpR op_isK (pv 3) pe_non (nomark _)) (pv 5) (pe_callB (call_max2 rfl) (by rfl) T.z_max (by decide +kernel) (pa_cons (pe_callTy call_intK (by rfl) T.z_int (by decide +kernel) (pa_cons (pv 3) pa_nil)) (pa_cons (pv 5) pa_nil)))) (pg_name (i := 3) sc__law_w_best_worth.nd rfl (by first | exact .inl rfl | exact .inr rfl)))))
  pss_nil)))
  (pss_one (ps_ret (pv 3))))), fun R k0 ds b hp hl hE => ?_⟩), m, F.kp, bi⟩
  obtain ⟨o, ho⟩ := hp
  obtain ⟨⟨⟨p, d⟩, cs⟩, rfl, ⟨⟨h1, h1'⟩, h2, h3⟩, rfl⟩ := gOf_inv ho
  dsimp only at h1 h1' h2 h3 ho hl ⊢
  refine ws_seq (ws_asg (we_non (wg_nm (by rfl) ?_)))
  dsimp only [startD, List.map, List.append, List.replicate, List.set]
  refine ws_seq (ws_for (wi_seqL (we_callF (X := fun _ _ _ _ => False) xok0 (wl_cons (we_var rfl (wl_cons (we_op (we_var rfl (we_int (rd_add_int (wl_nil ?_))))))))))) 
  have e1 : ((d : Int) + 1) = ((d + 1 : Nat) : Int) := by omega
  rw [e1]
  refine co_ret rfl (gRows_eq ⟨h1, h1'⟩ (by omega)) ⟨_, rfl, ?_⟩
  have hok : ∀ r ∈ rowsL p (d + 1), RowOk p d r := fun r hr => (rowsL_ok (by omega)).mp hr
  have eb : bwO p d cs = (rowsL p (d + 1)).foldl (bwS p cs) none := rfl
  rw [eb] at ho
  generalize rowsL p (d + 1) = rows at hok ho
  refine ⟨fun i ς => ∃ x4 x5 x6 x7, ς = { δ := [some (.int p), some (.int (d : Int)), some (cnsD cs), some (oI ((rows.take i).foldl (bwS p cs) none)), x4, x5, x6, x7], b := b }, ⟨_, _, _, _, rfl⟩, ?_, ?_⟩
  · rintro i e ς hi ⟨x4, x5, x6, x7, rfl⟩
    obtain ⟨r, hr, rfl⟩ := get_rows hi
    have rok := hok r (List.mem_of_getElem? hr)
    have rl := rok.len
    have es := foldl_take (f := bwS p cs) (b := none) hr
    dsimp only
    rw [es]
    generalize (rows.take i).foldl (bwS p cs) none = f
    refine wg_nm (by rfl) ?_
    dsimp only [List.set]
    refine ws_if (wt_test (we_op (we_op (we_op (we_callF (X := fun _ _ _ _ => False) xok0 (wl_cons (we_var rfl (wl_cons (we_int (wl_cons (we_var rfl (wl_nil (co_ret rfl (gWW_eq (r := r) (n := 0) (by omega) (by omega) (by omega) rok.bd) ?_)))))))))))))
    refine we_callF (X := fun _ _ _ _ => False) xok0 (wl_cons (we_var rfl (wl_cons (we_int (wl_cons (we_var rfl (wl_nil (co_ret rfl (gWW_eq (r := r) (n := 1) (by omega) (by omega) (by omega) rok.bd) (rd_add_int (we_var rfl (rd_mod (by omega) (we_int (rd_ne_int ?_)))))))))))))
    have eq : (!decide ((ww p 0 r + ww p 1 r) % p = 0)) = qual p r := rfl
    rw [eq]
    unfold bwS
    cases q : qual p r with
    | false =>
      refine ⟨_, rfl, fun z => (nomatch z), fun _ => ?_⟩
      refine ws_next ?_
      rw [if_neg Bool.false_ne_true]
      exact ⟨_, _, _, _, rfl⟩
    | true =>
      refine ⟨_, rfl, fun _ => ?_, fun z => (nomatch z)⟩
      rw [if_pos rfl]
      refine ws_seq (ws_asg (we_cb (wl_cons (we_lcF (kg_tup (kgs_cons (by decide) (kgs_cons (by decide) kgs_nil))) (wi_seqV rfl rfl ?_)))))
      refine ⟨zeroT p r, sndD, lt_size (by rw [List.length_map]; omega), fun x hx oo acc => ?_, ?_⟩
      · obtain ⟨c, _, rfl⟩ := mem_pD hx
        refine wg_tup rfl (wgs_cons (wg_nm (by rfl) (wgs_cons (wg_nm (by rfl) (wgs_nil ?_)))))
        dsimp only [List.set, wipeD]
        refine wt_test (we_op (we_callF (X := fun _ _ _ _ => False) xok0 (wl_cons (we_var rfl (wl_cons (we_op (we_cb (wl_cons (we_var rfl (wl_nil (rc_int (we_var rfl (rd_mod (by omega) (wl_cons (we_var rfl (wl_nil (co_ret rfl (gWW_eq (r := r) (n := c.1 % p) (by omega) (by omega) (by omega) rok.bd) ?_)))))))))))))))))
        exact we_int (rd_eq_int ⟨_, rfl, rfl, fun _ => we_var rfl ⟨rfl, rfl, rfl⟩, fun _ => ⟨rfl, rfl⟩⟩)
      rw [filter_pD cs (zeroT p r) (fun c => decide (ww p (c.1 % p) r = 0)) fun r => rfl, map_int sndD (·.2) fun r => rfl]
      refine wl_nil (rc_sum (wg_nm (by rfl) ?_))
      dsimp only [List.set]
      have eh : ((cs.filter fun c => decide (ww p (c.1 % p) r = 0)).map (·.2)).sum = hereW p cs r := rfl
      rw [eh]
      generalize hereW p cs r = W
      cases f with
      | none =>
        refine ws_asg (we_if (wt_test (we_op (we_var rfl (we_non (rd_is ⟨_, rfl, fun _ => ?_, fun z => (nomatch z)⟩))))))
        refine we_var rfl (wg_nm (by rfl) ?_)
        dsimp only [List.set]
        exact ⟨_, _, _, _, rfl⟩
      | some f =>
        refine ws_asg (we_if (wt_test (we_op (we_var rfl (we_non (rd_is ⟨_, rfl, fun z => (nomatch z), fun _ => ?_⟩))))))
        refine we_cb (wl_cons (we_cb (wl_cons (we_var rfl (wl_nil (rc_int (wl_cons (we_var rfl (wl_nil (rc_max2 (wg_nm (by rfl) ?_)))))))))))
        dsimp only [List.set]
        exact ⟨_, _, _, _, rfl⟩
  · rintro ς ⟨x4, x5, x6, x7, rfl⟩
    rw [List.length_map, List.take_length]
    exact ws_ret (we_var rfl ⟨ho, rfl⟩)
noncomputable def gWt : List D → Option Out := gOf (fun x : (List (Int × Int) × List Int) × Int => [cnsD x.1.1, iL x.1.2, .int x.2]) (fun x => (2 ≤ x.2 ∧ x.2 ≤ 101) ∧ x.1.1.length ≤ 200) fun x => .ret (.int (wIn x.2 x.1.2 x.1.1).sum)
theorem cns_inj {l m : List (Int × Int)} (h : cnsD l = cnsD m) : l = m := by
  injection h with h
  have e : ∀ l : List (Int × Int), (l.map pD).map (fun d => match d with | .tup [.int a, .int b] => (a, b) | _ => (0, 0)) = l := fun l => by
    rw [List.map_map]
    exact (List.map_congr_left fun _ _ => rfl).trans (List.map_id' l)
  rw [← e l, h, e]
theorem gWt_eq {p : Int} {ns : List Int} {cs : List (Int × Int)} (h1 : 2 ≤ p ∧ p ≤ 101) (h3 : cs.length ≤ 200) : gWt [cnsD cs, iL ns, .int p] = some (.ret (.int (wIn p ns cs).sum)) :=
  gOf_eq (ar := fun x : (List (Int × Int) × List Int) × Int => [cnsD x.1.1, iL x.1.2, .int x.2]) (x := ((cs, ns), p)) (fun x y e => by
    injection e with e1 e
    injection e with e2 e
    injection e with e3 _
    injection e3 with e3
    exact Prod.ext (Prod.ext (cns_inj e1) (DL.iL_inj (D.lst.inj e2))) e3) ⟨h1, h3⟩
theorem ok_weight (T : Tx P K mg A) : CalX P w K mg base 1 "_law_weight" (SpS K 3 (spcF gWt)) := by
  obtain ⟨a, fd, F, m, bi⟩ := T.f__law_weight
  refine ⟨a, fd, _, fnS F sc__law_weight rfl (fun cdv A' outer sh H E hr => ⟨_, (pss_one (ps_ret (pe_callB (DK.sum (K := K)) (by rfl) T.z_sum (by decide +kernel) (pa_cons (pe_lc (own := [("_law_number", 3), ("_law_weight_here", 4)]) (g := (gTup K 2 (gCons (gName 3) (gCons (gName 4) gNil)))) rfl sc__law_weight.nd (DK.pi_seq (K := K) (pv 0)) (blkOk_by (own := [("_law_number", 3), ("_law_weight_here", 4)]) (N := n__law_weight) (sc := (defScope s__law_weight)) (by first | decide +kernel | kernel_rfl)) (fun _ _ _ _ _ => (DK.pg_tup (K := K) rfl (pgs_cons (pg_name (i := 3) sc__law_weight.nd rfl (by first | exact .inl rfl | exact .inr rfl)) (pgs_cons (pg_name (i := 4) sc__law_weight.nd rfl (by first | exact .inl rfl | exact .inr rfl)) pgs_nil)))) (fun _ _ _ _ _ => (pts_one (pt_cmpR (DK.op_in (K := K)) (pe_op op_modK (pe_callTy call_intK (by rfl) T.z_int (by decide +kernel) (pa_cons (pv 3) pa_nil)) (pv 2)) (pv 1) (by rfl)))) (fun _ _ _ _ _ => (pv 4))) pa_nil)))), fun R k0 ds b hp hl hE => ?_⟩), m, F.kp, bi⟩
  obtain ⟨o, ho⟩ := hp
  obtain ⟨⟨⟨cs, ns⟩, p⟩, rfl, ⟨⟨h1, h1'⟩, h3⟩, rfl⟩ := gOf_inv ho
  dsimp only at h1 h1' h3 ho hl ⊢
  refine ws_ret (we_cb (wl_cons (we_lcF (kg_tup (kgs_cons (by decide) (kgs_cons (by decide) kgs_nil))) (wi_seqV rfl rfl ?_))))
  refine ⟨inT p ns, sndD, lt_size (by rw [List.length_map]; omega), fun x hx oo acc => ?_, ?_⟩
  · obtain ⟨c, _, rfl⟩ := mem_pD hx
    refine wg_tup rfl (wgs_cons (wg_nm (by rfl) (wgs_cons (wg_nm (by rfl) (wgs_nil ?_)))))
    dsimp only [List.set, wipeD]
    refine wt_test (we_op (we_op (we_cb (wl_cons (we_var rfl (wl_nil (rc_int (we_var rfl (rd_mod (by omega) (we_var rfl (rd_in rfl (by rfl) (flat_iL ns) ?_)))))))))))
    rw [any_iLm]
    exact ⟨_, rfl, rfl, fun _ => we_var rfl ⟨rfl, rfl, rfl⟩, fun _ => ⟨rfl, rfl⟩⟩
  have e : ((cs.map pD).filter (inT p ns)).map sndD = (wIn p ns cs).map D.int := by
    rw [filter_pD cs (inT p ns) (fun c => decide (c.1 % p ∈ ns)) fun r => rfl, map_int sndD (·.2) fun r => rfl]
    rfl
  rw [e]
  exact wl_nil (rc_sum ⟨ho, rfl⟩)
noncomputable def gZero : List D → Option Out := gOf (fun x : (Int × Nat) × List Int => [.int x.1.1, .int (x.1.2 : Int), iL x.2]) (fun x => (2 ≤ x.1.1 ∧ x.1.1 ≤ 5) ∧ x.1.2 ≤ 3 ∧ x.2.length ≤ 200 ∧ ∃ r, RowOk x.1.1 x.1.2 r ∧ qual x.1.1 r = true ∧ ∀ n ∈ x.2, ww x.1.1 n r = 0) fun _ => .ret (.bl true)
theorem gZero_eq {p : Int} {d : Nat} {ns : List Int} (h1 : 2 ≤ p ∧ p ≤ 5) (h2 : d ≤ 3) (h3 : ns.length ≤ 200) (h4 : ∃ r, RowOk p d r ∧ qual p r = true ∧ ∀ n ∈ ns, ww p n r = 0) : gZero [.int p, .int (d : Int), iL ns] = some (.ret (.bl true)) :=
  gOf_eq (ar := fun x : (Int × Nat) × List Int => [.int x.1.1, .int (x.1.2 : Int), iL x.2]) (x := ((p, d), ns)) (fun x y e => by
    injection e with e1 e
    injection e with e2 e
    injection e with e3 _
    injection e1 with e1
    injection e2 with e2
    exact Prod.ext (Prod.ext e1 (Int.ofNat.inj e2)) (DL.iL_inj (D.lst.inj e3))) ⟨h1, h2, h3, h4⟩
theorem ok_is_zero (T : Tx P K mg A) : CalX P w K mg base 2 "_law_is_zero" (SpS K 3 (spcF gZero)) := by
  have c__law_w_rows := @ok_w_rows P w K mg base A T
  have c__law_w_worth := @ok_w_worth P w K mg base A T
  obtain ⟨a, fd, F, m, bi⟩ := T.f__law_is_zero
  refine ⟨a, fd, _, fnS F sc__law_is_zero rfl (fun cdv A' outer sh H E hr => ⟨_, (pss_cons (ps_for (passes_of rfl) rfl (DK.pi_seq (K := K) (pe_cx c__law_w_rows hr (by omega) (by rfl) (passes_call (takes_of rfl rfl rfl rfl) (fun _ _ _ _ z => z)) (pa_cons (pv 0) (pa_cons (pe_op (DK.op_add (K := K)) (pv 1) pe_int) pa_nil)))) (pg_name (i := 3) sc__law_is_zero.nd rfl (by first | exact .inl rfl | exact .inr rfl))
  (pss_one (ps_if (pt_cmpR (DK.op_ne (K := K) (hr.units)) (pe_op op_modK (pe_op (DK.op_add (K := K)) (pe_cx c__law_w_worth hr (by omega) (by rfl) (passes_call (takes_of rfl rfl rfl rfl) (fun _ _ _ _ z => z)) (pa_cons (pv 3) (pa_cons pe_int (pa_cons (pv 0) pa_nil)))) (pe_cx c__law_w_worth hr (by omega) (by rfl) (passes_call (takes_of rfl rfl rfl rfl) (fun _ _ _ _ z => z)) (pa_cons (pv 3) (pa_cons pe_int (pa_cons (pv 0) pa_nil))))) (pv 0)) pe_int (nomark _))
  (pss_one (ps_if (pt_not (pt_val (pe_callB (DK.anyI (K := K)) (by rfl) T.z_any (by decide +kernel) (pa_cons (pe_lc (own := [("_law_number", 4)]) (g := (gName 4)) (tt := tYes) rfl sc__law_is_zero.nd (DK.pi_seq (K := K) (pv 2)) (blkOk_by (own := [("_law_number", 4)]) (N := n__law_is_zero) (sc := (defScope s__law_is_zero)) (by first | decide +kernel | kernel_rfl)) (fun _ _ _ _ _ => (pg_name (i := 4) sc__law_is_zero.nd rfl (by first | exact .inl rfl | exact .inr rfl))) (fun _ _ _ _ _ => pts_nil) (fun _ _ _ _ _ => (pe_cx c__law_w_worth hr (by omega) (by rfl) passL (pa_cons (pv 3) (pa_cons (pv 4) (pa_cons (pv 0) pa_nil)))))) pa_nil))))
  (pss_one (ps_ret pe_bl))
  pss_nil))
  pss_nil)))
  (pss_one (ps_ret pe_bl))), fun R k0 ds b hp hl hE => ?_⟩), m, F.kp, bi⟩
  obtain ⟨o, ho⟩ := hp
  obtain ⟨⟨⟨p, d⟩, ns⟩, rfl, ⟨⟨h1, h1'⟩, h2, h3, r0, rok0, q0, z0⟩, rfl⟩ := gOf_inv ho
  dsimp only at h1 h1' h2 h3 rok0 q0 z0 ho hl ⊢
  dsimp only [startD, List.map, List.append, List.replicate, List.set]
  refine ws_seq (ws_for (wi_seqL (we_callF (X := fun _ _ _ _ => False) xok0 (wl_cons (we_var rfl (wl_cons (we_op (we_var rfl (we_int (rd_add_int (wl_nil ?_))))))))))) 
  have e1 : ((d : Int) + 1) = ((d + 1 : Nat) : Int) := by omega
  rw [e1]
  refine co_ret rfl (gRows_eq ⟨h1, h1'⟩ (by omega)) ⟨_, rfl, ?_⟩
  have hok : ∀ r ∈ rowsL p (d + 1), RowOk p d r := fun r hr => (rowsL_ok (by omega)).mp hr
  have hm : r0 ∈ rowsL p (d + 1) := (rowsL_ok (by omega)).mpr rok0
  generalize rowsL p (d + 1) = rows at hok hm
  refine ⟨fun i ς => (r0 ∉ rows.take i) ∧ ∃ x3 x4, ς = { δ := [some (.int p), some (.int (d : Int)), some (iL ns), x3, x4], b := b }, ⟨by simp, _, _, rfl⟩, ?_, ?_⟩
  · rintro i e ς hi ⟨no, x3, x4, rfl⟩
    obtain ⟨r, hr, rfl⟩ := get_rows hi
    have rok := hok r (List.mem_of_getElem? hr)
    have rl := rok.len
    have next : r ≠ r0 → r0 ∉ rows.take (i + 1) := fun ne z => by
      rw [List.take_add_one, hr] at z
      rcases List.mem_append.mp z with z | z
      · exact no z
      · have z : r0 = r := by simpa using z
        exact ne z.symm
    refine wg_nm (by rfl) ?_
    dsimp only [List.set]
    refine ws_if (wt_test (we_op (we_op (we_op (we_callF (X := fun _ _ _ _ => False) xok0 (wl_cons (we_var rfl (wl_cons (we_int (wl_cons (we_var rfl (wl_nil (co_ret rfl (gWW_eq (r := r) (n := 0) (by omega) (by omega) (by omega) rok.bd) ?_)))))))))))))
    refine we_callF (X := fun _ _ _ _ => False) xok0 (wl_cons (we_var rfl (wl_cons (we_int (wl_cons (we_var rfl (wl_nil (co_ret rfl (gWW_eq (r := r) (n := 1) (by omega) (by omega) (by omega) rok.bd) (rd_add_int (we_var rfl (rd_mod (by omega) (we_int (rd_ne_int ?_)))))))))))))
    have eq : (!decide ((ww p 0 r + ww p 1 r) % p = 0)) = qual p r := rfl
    rw [eq]
    cases q : qual p r with
    | false =>
      refine ⟨_, rfl, fun z => (nomatch z), fun _ => ?_⟩
      refine ws_next ?_
      refine ⟨next fun z => ?_, _, _, rfl⟩
      rw [z, q0] at q
      cases q
    | true =>
      refine ⟨_, rfl, fun _ => ?_, fun z => (nomatch z)⟩
      refine ws_if (wt_not (wt_test (we_cb (wl_cons (we_lcM (kg_name (by decide)) (wi_seqV rfl rfl ?_))))))
      refine ⟨fun x => .int (ww p (dI x) r), lt_size (by rw [List.length_map]; omega), fun x hx oo acc => ?_, ?_⟩
      · obtain ⟨n, _, rfl⟩ := List.mem_map.mp hx
        refine wg_nm (by rfl) ?_
        dsimp only [List.set, wipeD]
        exact we_callF (X := fun _ _ _ _ => False) xok0 (wl_cons (we_var rfl (wl_cons (we_var rfl (wl_cons (we_var rfl (wl_nil (co_ret rfl (gWW_eq (r := r) (n := n) (by omega) (by omega) (by omega) rok.bd) ⟨rfl, rfl, rfl⟩))))))))
      have e : (ns.map D.int).map (fun x => D.int (ww p (dI x) r)) = (ns.map fun n => ww p n r).map D.int := by
        rw [List.map_map, List.map_map]
        rfl
      rw [e]
      refine wl_nil (rc_anyI ?_)
      cases qa : (ns.map fun n => ww p n r).any fun n => n != 0 with
      | false =>
        refine ⟨_, rfl, fun _ => ?_, fun z => (nomatch z)⟩
        exact ws_ret (we_bl ⟨ho, rfl⟩)
      | true =>
        refine ⟨_, rfl, fun z => (nomatch z), fun _ => ?_⟩
        refine ws_next ?_
        refine ⟨next fun z => ?_, _, _, rfl⟩
        obtain ⟨y, hy, ny⟩ := List.any_eq_true.mp qa
        obtain ⟨n, hn, rfl⟩ := List.mem_map.mp hy
        rw [z, z0 n hn] at ny
        cases ny
  · rintro ς ⟨no, x3, x4, rfl⟩
    rw [List.length_map, List.take_length] at no
    exact absurd hm no
abbrev rrA (x : ((((Int × Nat) × List (Int × Int)) × Int) × List Int) × Int) : List D := [.int x.1.1.1.1.1, .int (x.1.1.1.1.2 : Int), cnsD x.1.1.1.2, .int x.1.1.2, iL x.1.2, .int x.2]
noncomputable def gRow : List D → Option Out := gOf rrA (fun x => (2 ≤ x.1.1.1.1.1 ∧ x.1.1.1.1.1 ≤ 5) ∧ x.1.1.1.1.2 ≤ 3 ∧ x.1.1.1.2.length ≤ 200 ∧ (RowOk x.1.1.1.1.1 x.1.1.1.1.2 x.1.2 ∧ (ww x.1.1.1.1.1 0 x.1.2 + ww x.1.1.1.1.1 1 x.1.2 - x.1.1.2) % x.1.1.1.1.1 = 0 ∧ hereW x.1.1.1.1.1 x.1.1.1.2 x.1.2 = x.2)) fun _ => .ret (.bl true)
theorem gRow_eq {p far due : Int} {d : Nat} {cs : List (Int × Int)} {row : List Int} (h1 : 2 ≤ p ∧ p ≤ 5) (h2 : d ≤ 3) (h3 : cs.length ≤ 200) (h4 : RowOk p d row) (h5 : (ww p 0 row + ww p 1 row - far) % p = 0) (h6 : hereW p cs row = due) : gRow [.int p, .int (d : Int), cnsD cs, .int far, iL row, .int due] = some (.ret (.bl true)) :=
  gOf_eq (ar := rrA) (x := (((((p, d), cs), far), row), due)) (fun x y e => by
    injection e with e1 e
    injection e with e2 e
    injection e with e3 e
    injection e with e4 e
    injection e with e5 e
    injection e with e6 _
    injection e1 with e1
    injection e2 with e2
    injection e4 with e4
    injection e6 with e6
    exact Prod.ext (Prod.ext (Prod.ext (Prod.ext (Prod.ext e1 (Int.ofNat.inj e2)) (cns_inj e3)) e4) (DL.iL_inj (D.lst.inj e5))) e6) ⟨h1, h2, h3, h4, h5, h6⟩
theorem ok_row_right (T : Tx P K mg A) : CalX P w K mg base 8 "_law_row_right" (SpS K 6 (spcF gRow)) := by
  have c__law_w_worth := @ok_w_worth P w K mg base A T
  have c__law_weight := @ok_weight P w K mg base A T
  have c__law_same := @ok_same P w K mg base A T 6
  obtain ⟨a, fd, F, m, bi⟩ := T.f__law_row_right
  refine ⟨a, fd, _, fnS F sc__law_row_right rfl (fun cdv A' outer sh H E hr => ⟨_, (pss_cons (ps_if (PW.pt (pw_or (pt_not (pt_val (pe_callB (DK.isi (K := K)) (by rfl) T.z_isinstance (by decide +kernel) (pa_cons (pv 4) (pa_cons (pe_tyn (n := "list") (by rfl) T.z_list (by decide +kernel)) pa_nil))))) (pw_or1 (pt_cmpR (DK.op_ne (K := K) (hr.units)) (pe_callB (DK.len (K := K)) (by rfl) T.z_len (by decide +kernel) (pa_cons (pv 4) pa_nil)) (pe_op (DK.op_add (K := K)) (pv 1) pe_int) (nomark _)))))
  (pss_one (ps_ret pe_bl))
  pss_nil)
  (pss_cons (ps_if (pt_not (pt_val (pe_callB (DK.all (K := K)) (by rfl) T.z_all (by decide +kernel) (pa_cons (pe_lc (own := [("_law_one", 9)]) (g := (gName 9)) (tt := tYes) rfl sc__law_row_right.nd (DK.pi_seq (K := K) (pv 4)) (blkOk_by (own := [("_law_one", 9)]) (N := n__law_row_right) (sc := (defScope s__law_row_right)) (by first | decide +kernel | kernel_rfl)) (fun _ _ _ _ _ => (pg_name (i := 9) sc__law_row_right.nd rfl (by first | exact .inl rfl | exact .inr rfl))) (fun _ _ _ _ _ => pts_nil) (fun _ _ _ _ _ => (pe_cx c__law_same hr (by omega) (by rfl) passL (pa_cons (pv 9) (pa_cons (pe_op op_modK (pe_callTy call_intK (by rfl) T.z_int (by decide +kernel) (pa_cons (pv 9) pa_nil)) (pv 0)) pa_nil))))) pa_nil))))
  (pss_one (ps_ret pe_bl))
  pss_nil)
  (pss_cons (ps_setLc (i := 6) (own := [("_law_number", 8)]) (g := (gName 8)) rfl sc__law_row_right.nd rfl rfl (sw_true rfl rfl rfl (by decide +kernel)) (pi_range1 (by rfl) T.z_range (pa_cons (pv 0) pa_nil)) (blkOk_by (own := [("_law_number", 8)]) (N := n__law_row_right) (sc := (defScope s__law_row_right)) (by first | decide +kernel | kernel_rfl)) (fun _ _ _ _ _ => (pg_name (i := 8) sc__law_row_right.nd rfl (by first | exact .inl rfl | exact .inr rfl))) (fun _ _ _ _ _ => (pts_one (pt_cmpR (DK.op_eq (K := K) (hr.units)) (pe_cx c__law_w_worth hr (by omega) (by rfl) passL (pa_cons (pv 4) (pa_cons (pv 8) (pa_cons (pv 0) pa_nil)))) pe_int (nomark _)))) (fun _ _ _ _ _ => (pv 8)))
  (pss_cons (ps_asg (pe_op (DK.op_add (K := K)) (pe_cx c__law_w_worth hr (by omega) (by rfl) (passes_call (takes_of rfl rfl rfl rfl) (fun _ _ _ _ z => z)) (pa_cons (pv 4) (pa_cons pe_int (pa_cons (pv 0) pa_nil)))) (pe_cx c__law_w_worth hr (by omega) (by rfl) (passes_call (takes_of rfl rfl rfl rfl) (fun _ _ _ _ z => z)) (pa_cons (pv 4) (pa_cons pe_int (pa_cons (pv 0) pa_nil))))) (pg_name (i := 7) sc__law_row_right.nd rfl (by first | exact .inl rfl | exact .inr rfl)))
  (pss_one (ps_ret (pe_and (pe_cmpR (DK.op_eq (K := K) (hr.units)) (pe_op op_modK (pe_callTy call_intK (by rfl) T.z_int (by decide +kernel) (pa_cons (pe_op op_subK (pv 7) (pv 3)) pa_nil)) (pv 0)) pe_int (nomark _)) (pe_one (pe_cmpR (DK.op_eq (K := K) (hr.units)) (pe_cx c__law_weight hr (by omega) (by rfl) (passes_call (takes_of rfl rfl rfl rfl) (fun _ _ _ _ z => z)) (pa_cons (pv 2) (pa_cons (pv 6) (pa_cons (pv 0) pa_nil)))) (pv 5) (nomark _)))))))))), fun R k0 ds b hp hl hE => ?_⟩), m, F.kp, bi⟩
  obtain ⟨o, ho⟩ := hp
  obtain ⟨⟨⟨⟨⟨⟨p, d⟩, cs⟩, far⟩, row⟩, due⟩, rfl, ⟨⟨h1, h1'⟩, h2, h3, rok, hf, hw⟩, rfl⟩ := gOf_inv ho
  dsimp only [rrA] at h1 h1' h2 h3 rok hf hw ho hl ⊢
  dsimp only [startD, List.map, List.append, List.replicate, List.set]
  have rl := rok.len
  refine ws_seq (ws_if (wt_or (wt_not (wt_test (we_cb (wl_cons (we_var rfl (wl_cons (we_ty (wl_nil (rc_isi (d := iL row) (s := "list") rfl (by simp [Knd]) ?_)))))))))) )
  refine ⟨_, rfl, fun _ => ?_, fun z => (nomatch z)⟩
  refine wt_test (we_op (we_cb (wl_cons (we_var rfl (wl_nil (rc_lenI (we_op (we_var rfl (we_int (rd_add_int (rd_ne_int ?_)))))))))))
  refine ⟨_, rfl, fun z => absurd z (by rw [rl]; simp), fun _ => ?_⟩
  refine ws_next ?_
  refine ws_seq (ws_if (wt_not (wt_test (we_cb (wl_cons (we_lcM (kg_name (by decide)) (wi_seqV rfl rfl ?_)))))))
  refine ⟨fun _ => .bl true, lt_size (by rw [List.length_map]; omega), fun x hx oo acc => ?_, ?_⟩
  · obtain ⟨y, hy, rfl⟩ := List.mem_map.mp hx
    obtain ⟨y1, y2⟩ := rok.bd y hy
    refine wg_nm (by rfl) ?_
    dsimp only [List.set, wipeD]
    refine we_call (X := fun _ _ _ _ => False) xok0 (wl_cons (we_var rfl (wl_cons (we_op (we_cb (wl_cons (we_var rfl (wl_nil (rc_int (we_var rfl (rd_mod (by omega) (wl_nil ?_))))))))))))
    refine ⟨rfl, ⟨.int y, by rw [Int.emod_eq_of_lt y1 y2], by rfl⟩, ?_, fun _ _ _ _ z => z⟩
    rintro d' b' ⟨rfl, rfl⟩
    exact ⟨rfl, rfl, rfl⟩
  refine wl_nil (rc_allF (f := fun _ => true) ?_)
  have e : ((row.map D.int).all fun _ => true) = true := by simp
  rw [e]
  refine ⟨_, rfl, fun z => (nomatch z), fun _ => ?_⟩
  refine ws_next ?_
  refine ws_seq (ws_asg (we_lcF (kg_name (by decide)) (wi_rng1 (wl_cons (we_var rfl (wl_nil ⟨p, rfl, by omega, by omega, ?_⟩))))))
  refine ⟨fun d => match d with | .int n => decide (ww p n row = 0) | _ => false, id, lt_size (by rw [rngD_len]; omega), fun x hx oo acc => ?_, ?_⟩
  · rw [rngD_ints] at hx
    obtain ⟨n, hn, rfl⟩ := List.mem_map.mp hx
    refine wg_nm (by rfl) ?_
    dsimp only [List.set, wipeD]
    refine wt_test (we_op (we_callF (X := fun _ _ _ _ => False) xok0 (wl_cons (we_var rfl (wl_cons (we_var rfl (wl_cons (we_var rfl (wl_nil (co_ret rfl (gWW_eq (r := row) (n := n) (by omega) (by omega) (by omega) rok.bd) ?_))))))))))
    exact we_int (rd_eq_int ⟨_, rfl, rfl, fun _ => we_var rfl ⟨rfl, rfl, rfl⟩, fun _ => ⟨rfl, rfl⟩⟩)
  rw [rngD_ints, List.map_id, List.filter_map]
  have ez : (rngI p.toNat).filter ((fun d => match d with | .int n => decide (ww p n row = 0) | _ => false) ∘ D.int) = zerosL p row := rfl
  rw [ez]
  refine wg_nm (by rfl) ?_
  dsimp only [List.set]
  have zs := zeros_sum (p := p) (cs := cs) (row := row) (by omega)
  have eh : wsum (cs.filter fun c => decide (ww p (c.1 % p) row = 0)) = due := hw
  rw [eh] at zs
  refine ws_seq (ws_asg (we_op (we_callF (X := fun _ _ _ _ => False) xok0 (wl_cons (we_var rfl (wl_cons (we_int (wl_cons (we_var rfl (wl_nil (co_ret rfl (gWW_eq (r := row) (n := 0) (by omega) (by omega) (by omega) rok.bd) ?_)))))))))))
  refine we_callF (X := fun _ _ _ _ => False) xok0 (wl_cons (we_var rfl (wl_cons (we_int (wl_cons (we_var rfl (wl_nil (co_ret rfl (gWW_eq (r := row) (n := 1) (by omega) (by omega) (by omega) rok.bd) (rd_add_int (wg_nm (by rfl) ?_))))))))))
  dsimp only [List.set]
  refine ws_ret (we_and (we_op (we_op (we_cb (wl_cons (we_op (we_var rfl (we_var rfl (rd_sub (wl_nil (rc_int (we_var rfl (rd_mod (by omega) (we_int (rd_eq_int ?_)))))))))))))))
  rw [hf]
  refine ⟨_, rfl, fun _ => ?_, fun z => (nomatch z)⟩
  refine we_op (we_callF (X := fun _ _ _ _ => False) xok0 (wl_cons (we_var rfl (wl_cons (we_var rfl (wl_cons (we_var rfl (wl_nil (co_ret rfl (gWt_eq (ns := zerosL p row) ⟨h1, by omega⟩ h3) ?_)))))))))
  refine we_var rfl (rd_eq_int ?_)
  rw [zs, decide_eq_true rfl]
  exact ⟨ho, rfl⟩
end
end K10

set_option Elab.async false
set_option linter.all false
set_option maxRecDepth 100000
set_option maxHeartbeats 4000000
namespace K10
open PySem PySem.Spec PyProof.Rows L2 DL
/-! what the program tells, plain -/
theorem lay_rows : ∀ a : List (Int × Int), PyData.canLayAll0 (toPyL (a.map pD)) = true
  | [] => by simp [toPyL, PyData.canLayAll0]
  | x :: a => by simp [pD, toPyL, D.toPy, PyData.canLayAll0, PyData.canLay0, lay_rows a]
theorem dep_rows : ∀ a : List (Int × Int), PyData.depthAll (toPyL (a.map pD)) ≤ 2
  | [] => by simp [toPyL, PyData.depthAll]
  | x :: a => by
    have := dep_rows a
    simp [pD, toPyL, D.toPy, PyData.depthAll, PyData.depth]
    omega
theorem shT_rows (a : List (Int × Int)) : SeqAt.shaped (D.tup (a.map pD)).toPy = true := by
  have h1 := lay_rows a
  have h2 := dep_rows a
  simp only [SeqAt.shaped, D.toPy, PyData.canLay0, PyData.depth, h1, Bool.true_and, decide_eq_true_eq]
  omega
theorem eqvA_rows : ∀ a : List (Int × Int), PyData.eqvAll (toPyL (a.map pD)) (toPyL (a.map pD)) = true
  | [] => by simp [toPyL, PyData.eqvAll]
  | x :: a => by simp [pD, toPyL, D.toPy, PyData.eqv, PyData.eqvAll, eqvA_rows a]
theorem eqvT_rows (a : List (Int × Int)) : PyData.eqv (D.tup (a.map pD)).toPy (D.tup (a.map pD)).toPy = true := by
  simp only [D.toPy, PyData.eqv, eqvA_rows]
  try rfl
theorem lay_ns : ∀ a : List Int, PyData.canLayAll0 (toPyL (a.map D.int)) = true
  | [] => by simp [toPyL, PyData.canLayAll0]
  | x :: a => by simp [toPyL, D.toPy, PyData.canLayAll0, PyData.canLay0, lay_ns a]
theorem dep_ns : ∀ a : List Int, PyData.depthAll (toPyL (a.map D.int)) ≤ 1
  | [] => by simp [toPyL, PyData.depthAll]
  | x :: a => by
    have := dep_ns a
    simp [toPyL, D.toPy, PyData.depthAll, PyData.depth]
    omega
theorem sh_ns (a : List Int) : SeqAt.shaped (iL a).toPy = true := by
  have h1 := lay_ns a
  have h2 := dep_ns a
  simp only [SeqAt.shaped, iL, D.toPy, PyData.canLay0, PyData.depth, h1, Bool.true_and, decide_eq_true_eq]
  omega
theorem eqvA_ns : ∀ a : List Int, PyData.eqvAll (toPyL (a.map D.int)) (toPyL (a.map D.int)) = true
  | [] => by simp [toPyL, PyData.eqvAll]
  | x :: a => by simp [toPyL, D.toPy, PyData.eqv, PyData.eqvAll, eqvA_ns a]
theorem eqv_ns (a : List Int) : PyData.eqv (iL a).toPy (iL a).toPy = true := by
  simp only [iL, D.toPy, PyData.eqv, eqvA_ns]
  try rfl
def pL (c : Int × Int) : D := .lst [.int c.1, .int c.2]
theorem isPt_pL (c : Int × Int) : isPt (pL c) = some c := rfl
theorem froz_l {cs : List (Int × Int)} (h : cs.length ≤ 1000) {F : Int × Int → D} (hF : ∀ c, frozD 6 (F c) = some (pD c)) : frozD 7 (.lst (cs.map F)) = some (.tup (cs.map pD)) ∧ frozD 7 (.tup (cs.map F)) = some (.tup (cs.map pD)) := by
  have e1 : (cs.map F).length ≤ 1000 ∧ (cs.map F).all (fun x => (frozD 6 x).isSome) = true := by
    refine ⟨by rw [List.length_map]; exact h, List.all_eq_true.mpr fun x hx => ?_⟩
    obtain ⟨c, _, rfl⟩ := List.mem_map.mp hx
    rw [hF]
    rfl
  have e2 : (cs.map F).map (fun x => (frozD 6 x).getD .non) = cs.map pD := by
    rw [List.map_map]
    refine List.map_congr_left fun c _ => ?_
    show (frozD 6 (F c)).getD .non = pD c
    rw [hF]
    rfl
  constructor
  · show (if (cs.map F).length ≤ 1000 ∧ (cs.map F).all (fun x => (frozD 6 x).isSome) = true then some (D.tup ((cs.map F).map fun x => (frozD 6 x).getD .non)) else none) = _
    rw [if_pos e1, e2]
  · show (if (cs.map F).length ≤ 1000 ∧ (cs.map F).all (fun x => (frozD 6 x).isSome) = true then some (D.tup ((cs.map F).map fun x => (frozD 6 x).getD .non)) else none) = _
    rw [if_pos e1, e2]
/-- how the coins are handed -/
structure Hand (p : Int) (cs : List (Int × Int)) (L : D) : Prop where
  ok : CnsL p L cs
  fr : gFroz 7 [L] = some (.ret (.tup (cs.map pD)))
theorem hand1 {p : Int} {cs : List (Int × Int)} (h : CnsOk p cs) : Hand p cs (cnsD cs) := ⟨cnsL_pD h, by
  show (frozD 7 (.lst (cs.map pD))).map Out.ret = _
  rw [(froz_l (by have := h.few; omega) fun c => rfl).1]
  rfl⟩
theorem hand2 {p : Int} {cs : List (Int × Int)} (h : CnsOk p cs) : Hand p cs (.tup (cs.map pL)) := ⟨⟨h, rfl, by
  show ((cs.map pL).map isPt) = cs.map some
  rw [List.map_map]
  exact List.map_congr_left fun c _ => isPt_pL c⟩, by
  show (frozD 7 (.tup (cs.map pL))).map Out.ret = _
  rw [(froz_l (by have := h.few; omega) fun c => rfl).2]
  rfl⟩
theorem qual_far {p far : Int} {r : List Int} (hf : far % p ≠ 0) (h : (ww p 0 r + ww p 1 r - far) % p = 0) : qual p r = true := by
  unfold qual
  rw [decide_eq_false]
  · rfl
  · intro e
    have c1 : Cong p (ww p 0 r + ww p 1 r - far) 0 := .of_mod (by rw [Int.zero_emod]; exact h)
    have c2 : Cong p (ww p 0 r + ww p 1 r) 0 := .of_mod (by rw [Int.zero_emod]; exact e)
    have z := (c2.sub c1).eq
    have e2 : ww p 0 r + ww p 1 r - (ww p 0 r + ww p 1 r - far) = far := by omega
    rw [e2, Int.sub_zero, Int.zero_emod] at z
    exact hf z
theorem here_one {p : Int} {cs : List (Int × Int)} {r : List Int} (h : RowOk p 0 r) (q : qual p r = true) : hereW p cs r = 0 := by
  have hl := h.len
  obtain ⟨x, rfl⟩ : ∃ x, r = [x] := by
    match r, hl with
    | [a], _ => exact ⟨a, rfl⟩
  obtain ⟨x0, x1⟩ := h.bd x (by simp)
  have nx : x ≠ 0 := fun z => by
    subst z
    unfold qual at q
    rw [ww_one x0 x1, ww_one x0 x1, decide_eq_true (by simp)] at q
    cases q
  unfold hereW
  have ef : (cs.filter fun c => decide (ww p (c.1 % p) [x] = 0)) = [] := List.filter_eq_nil_iff.mpr fun c _ => by
    rw [ww_one x0 x1, decide_eq_false nx]
    exact Bool.false_ne_true
  rw [ef]
  rfl
theorem lt_of_le_nd : ∀ l : List Int, l.Pairwise (· ≤ ·) → l.Nodup → l.Pairwise (· < ·)
  | [], _, _ => .nil
  | x :: l, h, d => by
    obtain ⟨h1, h2⟩ := List.pairwise_cons.mp h
    obtain ⟨d1, d2⟩ := List.nodup_cons.mp d
    refine List.pairwise_cons.mpr ⟨fun y hy => ?_, lt_of_le_nd l h2 d2⟩
    have a := h1 y hy
    have b : x ≠ y := fun z => d1 (z ▸ hy)
    omega
theorem sorted_one {l m : List Int} (h1 : l.Pairwise (· < ·)) (h2 : m.Pairwise (· < ·)) (h : ∀ k, k ∈ l ↔ k ∈ m) : l = m := by
  have n1 : l.Nodup := h1.imp fun {a b} z e => by omega
  have n2 : m.Nodup := h2.imp fun {a b} z e => by omega
  have pm : l.Perm m := (List.perm_ext_iff_of_nodup n1 n2).mpr h
  have s1 := sortI_uniq (m := l) (l := m) pm (h1.imp fun {a b} z => by omega)
  have s2 := sortI_uniq (m := m) (l := m) (List.Perm.refl _) (h2.imp fun {a b} z => by omega)
  exact s1.trans s2.symm
structure BestQ (p : Int) (d : Nat) (cs : List (Int × Int)) (far W : Int) (ns row : List Int) : Prop where
  pos : 0 ≤ W
  few : ns.length ≤ d
  ord : ns.Pairwise (· < ·)
  sum : (wIn p ns cs).sum = W
  mem : ∀ n ∈ ns, n ∈ cs.map fun c => c.1 % p
  zero : ∃ r, RowOk p d r ∧ qual p r = true ∧ ∀ n ∈ ns, ww p n r = 0
  rok : RowOk p d row
  far : (ww p 0 row + ww p 1 row - far) % p = 0
  here : hereW p cs row = W
theorem low0 {p : Int} : lowW p [] = worth p 0 (rootedP p []) := rfl
theorem fit_nil {p : Int} (hp : isPrm p = true) (h2 : p ≠ 2) : FitW p 0 [] := by
  obtain ⟨p1, p2⟩ := prm_le hp
  refine ⟨Nat.le_refl _, fun e => ?_⟩
  rw [bothW (by omega : 1 < p)] at e
  unfold bothR at e
  have e : ((1 : Int) + 1) % p = 0 := e
  rw [show (1 : Int) + 1 = 2 from rfl, Int.emod_eq_of_lt (by omega) (by omega)] at e
  omega
theorem bestQ {p : Int} (hp : isPrm p = true) {d : Nat} (hd2 : d ≤ 20) {cs : List (Int × Int)} (hc : CnsOk p cs) {far W : Int} {ns : List Int} (hf : far % p ≠ 0) (hb : bestO p d cs = some (W, ns)) : FitW p d ns ∧ BestQ p d cs far W ns (padL (d + 1) (rowW p ns far)) := by
  obtain ⟨p1, p2⟩ := prm_le hp
  by_cases hd : 1 ≤ d
  · rw [bestO_eq hd] at hb
    injection hb with hb
    injection hb with e1 e2
    subst e1 e2
    have hz : ∀ row, WrongOk p (bestN p d cs) far row → hereW p cs row = bestW p d cs := fun row w => zero_weight hp hd hc w
    have hp0 : 0 ≤ bestW p d cs := best_pos (p := p) (d := d) (cs := cs) fun c hc' => (hc.wt c hc').1
    have B := best_ok hp hd hc
    have fw := B.fit.toW hp B.res B.few
    have rok := row_ok (far := far) hp fw
    have wok := wrong_ok (k := d + 1) hp hf fw
    obtain ⟨S, s0, pp, ew, es⟩ := B.sub
    have so : (bestN p d cs).Pairwise (· ≤ ·) := (sortI_spec _).2
    refine ⟨fw, hp0, B.few, lt_of_le_nd _ so ?_, ?_, fun n hn => ?_, ?_, rok, wok.far, hz _ wok⟩
    · have : (S.map fun c => c.1 % p).Nodup := List.Nodup.sublist (s0.map _) hc.nd
      exact pp.nodup_iff.mp this
    · rw [wIn_sum, ← es]
      exact ew
    · have := pp.mem_iff.mpr hn
      exact (s0.map fun c => c.1 % p).subset this
    · obtain ⟨r, h1, h2, _, h4⟩ := row_best hp hd hd2 hc
      exact ⟨r, h1, h2, h4⟩
  · have e0 : d = 0 := by omega
    subst e0
    have n2 : p ≠ 2 := fun z => by
      unfold bestO at hb
      rw [if_pos rfl, if_pos z] at hb
      cases hb
    unfold bestO at hb
    rw [if_pos rfl, if_neg n2] at hb
    injection hb with hb
    injection hb with e1 e2
    subst e1 e2
    have fw := fit_nil hp n2
    have rok := row_ok (far := far) hp fw
    have wok := wrong_ok (k := 0 + 1) hp hf fw
    refine ⟨fw, Int.le_refl _, Nat.le_refl _, .nil, ?_, fun n hn => absurd hn (by simp), ⟨[1], ⟨rfl, fun y hy => by rw [List.mem_singleton.mp hy]; omega⟩, ?_, fun n hn => absurd hn (by simp)⟩, rok, wok.far, here_one rok (qual_far hf wok.far)⟩
    · rw [wIn_sum]
      have ef : (cs.filter fun c => decide (c.1 % p ∈ ([] : List Int))) = [] := List.filter_eq_nil_iff.mpr fun c _ => by simp
      rw [ef]
      rfl
    · unfold qual
      rw [ww_one (by omega) (by omega), ww_one (by omega) (by omega), decide_eq_false]
      · rfl
      · rw [show (1 : Int) + 1 = 2 from rfl, Int.emod_eq_of_lt (by omega) (by omega)]
        omega
def toldH (p : Int) (d : Nat) (cs : List (Int × Int)) : D := match bestO p d cs with
  | none => .tup [.str "none", .non]
  | some x => .tup [.str "told", .tup [pD (lowI x.1 (wsum cs)), iL x.2]]
def toldW (p : Int) (d : Nat) (cs : List (Int × Int)) (far : Int) : D := match bestO p d cs with
  | none => .tup [.str "none", .non]
  | some x => .tup [.str "told", iL (padL (d + 1) (rowW p x.2 far))]
theorem tried_h {A : Ad} {p : Int} {d : Nat} {cs : List (Int × Int)} : Tried A (heavO A p d cs) (toldH p d cs) := by
  unfold heavO toldH
  cases bestO p d cs with
  | none => exact .NoPoly
  | some x => exact .told _
theorem tried_w {A : Ad} {p : Int} {d : Nat} {cs : List (Int × Int)} {far : Int} : Tried A (wrongO A p d cs far) (toldW p d cs far) := by
  unfold wrongO toldW
  cases bestO p d cs with
  | none => exact .NoPoly
  | some x => exact .told _
theorem two_none {A : Ad} : gHeav A [.int 2, .int 0, .lst [.tup [.int 1, .int 1]]] = some (.exc A.NoPoly [] []) := by
  have hc : CnsOk 2 [(1, 1)] := ⟨by simp, (by decide : 1 ≤ 200), fun c hc => by
    rw [List.mem_singleton.mp hc]
    exact ⟨(by decide : (1 : Int) ≤ 1), (by decide : (1 : Int) ≤ 1000)⟩, by simp⟩
  have e := gHeav_eq (A := A) (p := 2) (d := 0) (by decide +kernel) (by omega) (cnsL_pD hc)
  exact e
end K10

set_option Elab.async false
set_option linter.all false
set_option maxRecDepth 100000
set_option maxHeartbeats 4000000
namespace K10
open PySem PySem.Spec PyProof.Rows L2 DL
section
variable {P : Program} {w : World} {K : PySem.W.Frag} {mg : Str → Option Value} {base : Heap} {A : Ad}
local macro_rules | `(tactic| walk_at "s0") => `(tactic| with_reducible first
  | refine ws_seq ?_ | refine ws_next ?_ | refine ws_ret ?_ | refine ws_retN ?_ | refine ws_if ?_ | refine ws_asg ?_ | refine ws_drop ?_ | refine ws_par ?_ | refine ws_break ?_ | refine ws_cont ?_
  | refine we_var rfl ?_ | refine we_int ?_ | refine we_non ?_ | refine we_bl ?_ | refine we_str ?_ | refine we_ty ?_ | refine we_dnew ?_ | refine we_op ?_ | refine we_un ?_
  | refine we_and ?_ | refine we_or ?_ | refine we_not ?_ | refine we_if ?_ | refine we_chain ?_ | refine we_cb ?_ | refine we_tup ?_ | refine we_lst ?_
  | refine wl_cons ?_ | refine wl_nil ?_ | refine wt_B ?_ | refine wt_test ?_ | refine wt_and ?_ | refine wt_or ?_ | refine wt_not ?_ | refine wt_yes ?_
  | refine wi_tup ?_ | refine wi_list ?_ | refine wg_tup rfl ?_ | refine wgs_cons ?_ | refine wgs_nil ?_
  | refine rd_add_int ?_ | refine rd_sub ?_ | refine rd_lt ?_ | refine rd_le ?_ | refine rd_gt ?_ | refine rd_ge ?_ | refine rd_eq_int ?_ | refine rd_ne_int ?_ | refine rd_eq_str ?_ | refine rd_ne_str ?_ | refine rd_eq_bl ?_ | refine rd_ne_bl ?_ | refine rd_is ?_ | refine rd_is_bl ?_ | refine rd_isnot ?_ | refine ru_neg ?_
  | refine rc_int ?_ | refine rc_abs ?_ | refine rc_anyF ?_ | refine rc_allF ?_
  | refine brT ?_ | refine brF ?_ | refine brT' ?_ | refine brF' ?_
  | refine ⟨_, rfl, ?_⟩)
set_option hygiene false in
local macro_rules | `(tactic| walk_at "s1") => `(tactic| first
  | refine we_isiLT ?_ | refine we_isiILT ?_ | refine wi_seqV (by rfl) (by rfl) ?_ | walk_at "s0" | refine ⟨true, by rfl, ?_⟩ | refine ⟨false, by rfl, ?_⟩ | refine we_ref ?_ | refine we_fld1 ?_ | refine ⟨_, _, _, _, rfl, T.n_Poly_prime, by rfl, ?_⟩ | refine ⟨_, _, _, _, rfl, T.n_Poly_row, by rfl, ?_⟩ | refine rc_isiB (r := true) (by rfl) ?_ | refine rc_isiO T.k_Poly ?_ | refine rc_isiN T.k_Poly (by rfl) ?_ | refine we_callF (by assumption) ?_ | refine we_callF (X := fun _ _ _ _ => False) xok0 ?_ | refine we_callFl (by assumption) ?_ | refine we_callFl (X := fun _ _ _ _ => False) xok0 ?_ | refine we_makeFl (by assumption) ?_ | refine we_makeFl (X := fun _ _ _ _ => False) xok0 ?_ | refine we_makeF (by assumption) ?_ | refine we_makeF (X := fun _ _ _ _ => False) xok0 ?_ | refine DX.ws_rs (by assumption) ?_ | refine wt_test ?_ | refine co_ret rfl (by rfl) ?_ | refine wg_nm (by rfl) ?_ | refine parB (by rfl) (by rfl) ?_ | refine szB (by rfl) ?_ | refine szL (by rfl) ?_ | refine brT2 (by rfl) ?_ | refine brF2 (by rfl) ?_ | refine brT3 (by rfl) ?_ | refine brF3 (by rfl) ?_ | refine rc_isiB (r := false) (by rfl) ?_)
abbrev qL : Str := ("law" ++ ".<locals>.") ++ "<lambda>"
def spLaw (K : PySem.W.Frag) (A : Ad) : Sp := fun vs H Q _ => ∃ (a : Addr) (ns : List Int), vs = [.ref a] ∧ SqL K H a (ns.map V.int) ∧ H A.tL = some (.tbl #[]) ∧ ∀ H', Q (.bl true) H'
theorem ws_gen {c : Cn} {t : TS} {ς : Sta} {Ψ : Psi} (M : Sta → Prop) (h0 : M ς) (h : ∀ ς', M ς' → WS c t ς' Ψ) : WS c t ς Ψ := h ς h0
theorem we_triedF {c : Cn} {ς : Sta} {Φ : D → Sta → Prop} {Tb : List (Addr × Str)} {q : Str} {o : Out} {d : D} {g : List D → Option Out} {n : Nat} {ta : TA} {ds0 : List D} (T : Tx P c.K mg A) (V : TabR c Tb) (hds : ds0.length = n) (hg : g ds0 = some o) (ht : Tried A o d)
    (ha : ∀ c3 : Cn, WL c3 ta { δ := ς.δ, b := ς.b } fun ds ς1 => ds = ds0 ∧ ς1 = { δ := ς.δ, b := ς.b }) (hq : Φ d ς) :
    WE c (LamX.tLam Tb (DX.TTof q n__law_tried (t_tried c.K A q)) fun E => tCall (SpS c.K n (spcF g)) [] E ta) ς Φ := by
  refine we_tried T V ht (fun c3 h1 h2 E hE => ?_) hq
  obtain ⟨K3, R3, k3, h3, f3, b3⟩ := c3
  have h1 : K3 = c.K := h1
  subst h1
  refine we_callF hE fun σ k hh S Q z => ha _ σ k hh S Q fun vs k' h' ds ς' S' e r ⟨e1, e2⟩ => z vs k' h' ds ς' S' e r ⟨by rw [e1]; exact hds, o, by rw [e1]; exact hg, ?_⟩
  cases o with
  | ret v => exact .ret ⟨rfl, e2⟩
  | exc C ns fs => exact .exc ⟨rfl, e2⟩
inductive LS (st : Addr) (B : Nat) : Sta → Prop
  | mk {x0 x2 x3 x4 x5 x6 x7 x8 x9 x10 x11 x12 x13 x14 x15 x16 x17 x18 : Option D} {b : Nat} (h : b ≤ B) : LS st B { δ := [x0, some (.ref st), x2, x3, x4, x5, x6, x7, x8, x9, x10, x11, x12, x13, x14, x15, x16, x17, x18], m := [], b := b }
inductive LA (st : Addr) (p : Int) (d : Nat) (cs : List (Int × Int)) (far : Int) (B : Nat) : Sta → Prop
  | mk {x0 x2 x5 x6 x9 x10 x11 x12 x13 x14 x15 x16 x17 x18 : Option D} {b : Nat} (h : b ≤ B) : LA st p d cs far B { δ := [x0, some (.ref st), x2, some (.int (d : Int)), some (.int far), x5, x6, some (.int p), some (cnsD cs), x9, x10, x11, x12, x13, x14, x15, x16, x17, x18], m := [], b := b }
inductive LB (st : Addr) (p : Int) (d : Nat) (cs : List (Int × Int)) (far : Int) (tH tW : D) (o : Option Int) (B : Nat) : Sta → Prop
  | mk {x0 x2 x5 x13 x14 x15 x16 x17 x18 : Option D} {b : Nat} (h : b ≤ B) : LB st p d cs far tH tW o B { δ := [x0, some (.ref st), x2, some (.int (d : Int)), some (.int far), x5, some tH, some (.int p), some (cnsD cs), some (oI o), some (.int (wsum cs)), some tW, some (.tup (cs.map pD)), x13, x14, x15, x16, x17, x18], m := [], b := b }
inductive LC (st : Addr) (p : Int) (d : Nat) (cs : List (Int × Int)) (far W : Int) (ns row : List Int) (B : Nat) : Sta → Prop
  | mk {x0 x2 x5 x6 x12 x15 x16 x17 x18 : Option D} {b : Nat} (h : b ≤ B) : LC st p d cs far W ns row B { δ := [x0, some (.ref st), x2, some (.int (d : Int)), some (.int far), x5, x6, some (.int p), some (cnsD cs), some (.int W), some (.int (wsum cs)), some (.tup [.str "told", iL row]), x12, some (pD (lowI W (wsum cs))), some (iL ns), x15, x16, x17, x18], m := [], b := b }
abbrev pds : List D := [.tup [.int 2, .int 3], .tup [.int 3, .int 3], .tup [.int 5, .int 2], .tup [.int 5, .int 3], .tup [.int 2, .int 2], .tup [.int 3, .int 2]]
theorem pd_of {y : Int} (h0 : 0 ≤ y) (h1 : y < 6) : ∃ (p : Int) (d0 : Nat), atI pds y = some (.tup [.int p, .int (d0 : Int)]) ∧ isPrm p = true ∧ (2 ≤ p ∧ p ≤ 5) ∧ d0 ≤ 3 := by
  obtain ⟨k, rfl⟩ := Int.eq_ofNat_of_zero_le h0
  have hk : k = 0 ∨ k = 1 ∨ k = 2 ∨ k = 3 ∨ k = 4 ∨ k = 5 := by omega
  rcases hk with rfl | rfl | rfl | rfl | rfl | rfl
  · exact ⟨2, 3, atI_nat (i := 0) rfl, by decide +kernel, by decide, by decide⟩
  · exact ⟨3, 3, atI_nat (i := 1) rfl, by decide +kernel, by decide, by decide⟩
  · exact ⟨5, 2, atI_nat (i := 2) rfl, by decide +kernel, by decide, by decide⟩
  · exact ⟨5, 3, atI_nat (i := 3) rfl, by decide +kernel, by decide, by decide⟩
  · exact ⟨2, 2, atI_nat (i := 4) rfl, by decide +kernel, by decide, by decide⟩
  · exact ⟨3, 2, atI_nat (i := 5) rfl, by decide +kernel, by decide, by decide⟩
def toL : D → D
  | .tup l => .lst l
  | _ => .non
def modD (p : Int) : D → D
  | .tup [.int a, .int _] => .int (a % p)
  | _ => .non
set_option maxHeartbeats 40000000 in
theorem ok_law (T : Tx P K mg A) (TB : LamX.TabB base mg A.cL A.tL) {a : Addr} {fd : FuncData} (F : Fun K "law" "law" s_law a fd) (m : mg "law" = some (.ref a)) : FnOk P w K mg base (L2.CX P w) 12 a fd ["_law_script"] (spLaw K A) := by
  have c__law_start := @ok_start P w K mg base A T
  have c__law_draw := @ok_draw P w K mg base A T
  have c__law_pick := @ok_pick P w K mg base A T
  have c__law_w_coins := @ok_w_coins P w K mg base A T
  have c__law_w_best_worth := @ok_w_best_worth P w K mg base A T
  have c__law_w_lowest := @ok_w_lowest P w K mg base A T
  have c__law_weight := @ok_weight P w K mg base A T
  have c__law_is_zero := @ok_is_zero P w K mg base A T
  have c__law_row_right := @ok_row_right P w K mg base A T
  have c__law_same := @ok_same P w K mg base A T 6
  have c__law_frozen := @ok_frozen P w K mg base A T 7
  have c_heaviest := @ok_heaviest P w K mg base A T
  have c_wrong := @ok_wrong P w K mg base A T
  have MT : (A.tL, qL) ∈ [(A.tL, qL)] := List.mem_singleton.mpr rfl
  have HU : ∀ p ∈ [(A.tL, qL)], p.1 = A.tL → p.2 = qL := fun p hp _ => by rw [List.mem_singleton.mp hp]
  obtain ⟨oc, od, kV, doc, pm, an, cdv, ct, osl, rfl, lk, hcd⟩ := F.ex
  have hcv : cdv = .ref A.cL := by
    obtain ⟨cc, rfl⟩ := He.codeIn_ref hcd
    rw [T.c_law _ _ _ _ _ cc m lk rfl]
  subst hcv
  refine fn_of lk hcd sc_law (fun vs H Q E h => ?_) (fun A' outer s H vs Q E hr h => ⟨_, (pss_cons (ps_asg (pe_cx c__law_start hr (by omega) (by rfl) (passes_call (takes_of rfl rfl rfl rfl) (fun _ _ _ _ z => z)) (pa_cons (pv 0) pa_nil)) (pg_name (i := 1) sc_law.nd rfl (by first | exact .inl rfl | exact .inr rfl)))
  (pss_cons (ps_for (passes_of rfl) rfl (pi_range1 (by rfl) T.z_range (pa_cons pe_int pa_nil)) (pg_name (i := 2) sc_law.nd rfl (by first | exact .inl rfl | exact .inr rfl))
  (pss_cons (ps_asg (pe_ix (DK.ix (K := K)) (pe_lst (pa_cons (pe_tup (pa_cons pe_int (pa_cons pe_int pa_nil))) (pa_cons (pe_tup (pa_cons pe_int (pa_cons pe_int pa_nil))) (pa_cons (pe_tup (pa_cons pe_int (pa_cons pe_int pa_nil))) (pa_cons (pe_tup (pa_cons pe_int (pa_cons pe_int pa_nil))) (pa_cons (pe_tup (pa_cons pe_int (pa_cons pe_int pa_nil))) (pa_cons (pe_tup (pa_cons pe_int (pa_cons pe_int pa_nil))) pa_nil))))))) (pe_cx c__law_draw hr (by omega) (by rfl) (passes_call (takes_of rfl rfl rfl rfl) (fun _ _ _ _ z => z)) (pa_cons (pv 1) (pa_cons pe_int pa_nil))) (fun _ _ => rfl)) (DK.pg_tup (K := K) rfl (pgs_cons (pg_name (i := 7) sc_law.nd rfl (by first | exact .inl rfl | exact .inr rfl)) (pgs_cons (pg_name (i := 3) sc_law.nd rfl (by first | exact .inl rfl | exact .inr rfl)) pgs_nil))))
  (pss_cons (ps_asg (pe_cx c__law_draw hr (by omega) (by rfl) (passes_call (takes_of rfl rfl rfl rfl) (fun _ _ _ _ z => z)) (pa_cons (pv 1) (pa_cons (pe_op (DK.op_add (K := K)) (pv 3) pe_int) pa_nil))) (pg_name (i := 3) sc_law.nd rfl (by first | exact .inl rfl | exact .inr rfl)))
  (pss_cons (ps_asg (pe_tup (pa_cons (pe_cx c__law_w_coins hr (by omega) (by rfl) (passes_call (takes_of rfl rfl rfl rfl) (fun _ _ _ _ z => z)) (pa_cons (pv 1) (pa_cons (pv 7) (pa_cons pe_int pa_nil)))) (pa_cons (pe_op (DK.op_add (K := K)) pe_int (pe_cx c__law_draw hr (by omega) (by rfl) (passes_call (takes_of rfl rfl rfl rfl) (fun _ _ _ _ z => z)) (pa_cons (pv 1) (pa_cons (pe_op op_subK (pv 7) pe_int) pa_nil)))) pa_nil))) (DK.pg_tup (K := K) rfl (pgs_cons (pg_name (i := 8) sc_law.nd rfl (by first | exact .inl rfl | exact .inr rfl)) (pgs_cons (pg_name (i := 4) sc_law.nd rfl (by first | exact .inl rfl | exact .inr rfl)) pgs_nil))))
  (pss_cons (ps_asg (pe_op (DK.op_add (K := K)) (pv 4) (pe_op op_mulK (pv 7) (pe_op op_subK (pe_cx c__law_draw hr (by omega) (by rfl) (passes_call (takes_of rfl rfl rfl rfl) (fun _ _ _ _ z => z)) (pa_cons (pv 1) (pa_cons pe_int pa_nil))) pe_int))) (pg_name (i := 4) sc_law.nd rfl (by first | exact .inl rfl | exact .inr rfl)))
  (pss_cons (ps_par (by rfl) sc_law.nd (i := 9) (j := 10) rfl rfl (by decide) rfl rfl (pa_cons (pe_cx c__law_w_best_worth hr (by omega) (by rfl) (passes_call (takes_of rfl rfl rfl rfl) (fun _ _ _ _ z => z)) (pa_cons (pv 7) (pa_cons (pv 3) (pa_cons (pv 8) pa_nil)))) (pa_cons (pe_callB (DK.sum (K := K)) (by rfl) T.z_sum (by decide +kernel) (pa_cons (pe_lc (own := [("_law_number", 15), ("_law_weight_here", 16)]) (g := (gTup K 2 (gCons (gName 15) (gCons (gName 16) gNil)))) (tt := tYes) rfl sc_law.nd (DK.pi_seq (K := K) (pv 8)) (blkOk_by (own := [("_law_number", 15), ("_law_weight_here", 16)]) (N := n_law) (sc := (defScope s_law)) (by first | decide +kernel | kernel_rfl)) (fun _ _ _ _ _ => (DK.pg_tup (K := K) rfl (pgs_cons (pg_name (i := 15) sc_law.nd rfl (by first | exact .inl rfl | exact .inr rfl)) (pgs_cons (pg_name (i := 16) sc_law.nd rfl (by first | exact .inl rfl | exact .inr rfl)) pgs_nil)))) (fun _ _ _ _ _ => pts_nil) (fun _ _ _ _ _ => (pv 16))) pa_nil)) pa_nil)) (by rfl))
  (pss_cons (ps_asg (pe_cx c__law_pick hr (by omega) (by rfl) (passes_call (takes_of rfl rfl rfl rfl) (fun _ _ _ _ z => z)) (pa_cons (pv 1) (pa_cons (pe_lst (pa_cons (pv 8) (pa_cons (pe_callTy (DK.tup (K := K)) (by rfl) T.z_tuple (by decide +kernel) (pa_cons (pe_lc (own := [("_law_coin", 17)]) (g := (gName 17)) (tt := tYes) rfl sc_law.nd (DK.pi_seq (K := K) (pv 8)) (blkOk_by (own := [("_law_coin", 17)]) (N := n_law) (sc := (defScope s_law)) (by first | decide +kernel | kernel_rfl)) (fun _ _ _ _ _ => (pg_name (i := 17) sc_law.nd rfl (by first | exact .inl rfl | exact .inr rfl))) (fun _ _ _ _ _ => pts_nil) (fun _ _ _ _ _ => (pe_callTy (DK.lst (K := K)) (by rfl) T.z_list (by decide +kernel) (pa_cons (pv 17) pa_nil)))) pa_nil)) pa_nil))) pa_nil))) (pg_name (i := 5) sc_law.nd rfl (by first | exact .inl rfl | exact .inr rfl)))
  (pss_cons (ps_asg (DX.pe_lamT (q := qL) T.f__law_tried sc__law_tried rfl (by first | exact .inl rfl | exact .inr (.inl rfl)) (fun g cdv f c' s H tl act => d__law_tried (K := K) T rfl act) TB rfl MT HU hr (LamX.lamS_by (by first | decide +kernel | kernel_rfl)) (fun A outer s H E f c' hr => (pe_cx c_heaviest hr (by omega) (by rfl) (passes_call (takes_of rfl rfl rfl rfl) (fun _ _ _ _ z => z)) (pa_cons (pv 7) (pa_cons (pv 3) (pa_cons (pv 5) pa_nil)))))) (pg_name (i := 6) sc_law.nd rfl (by first | exact .inl rfl | exact .inr rfl)))
  (pss_cons (ps_par (by rfl) sc_law.nd (i := 11) (j := 12) rfl rfl (by decide) rfl rfl (pa_cons (DX.pe_lamT (q := qL) T.f__law_tried sc__law_tried rfl (by first | exact .inl rfl | exact .inr (.inl rfl)) (fun g cdv f c' s H tl act => d__law_tried (K := K) T rfl act) TB rfl MT HU hr (LamX.lamS_by (by first | decide +kernel | kernel_rfl)) (fun A outer s H E f c' hr => (pe_cx c_wrong hr (by omega) (by rfl) (passes_call (takes_of rfl rfl rfl rfl) (fun _ _ _ _ z => z)) (pa_cons (pv 7) (pa_cons (pv 3) (pa_cons (pv 5) (pa_cons (pv 4) pa_nil))))))) (pa_cons (pe_cx c__law_frozen hr (by omega) (by rfl) (passes_call (takes_of rfl rfl rfl rfl) (fun _ _ _ _ z => z)) (pa_cons (pv 8) pa_nil)) pa_nil)) (by rfl))
  (pss_cons (ps_if (pt_cmpR (DK.op_ne (K := K) (hr.units)) (pe_cx c__law_frozen hr (by omega) (by rfl) (passes_call (takes_of rfl rfl rfl rfl) (fun _ _ _ _ z => z)) (pa_cons (pv 5) pa_nil)) (pv 12) (nomark _))
  (pss_one (ps_ret pe_bl))
  pss_nil)
  (pss_one (ps_if (pt_cmpR op_isK (pv 9) pe_non (nomark _))
  (pss_one (ps_if (PW.pt (pw_or (pt_cmpR (DK.op_ne (K := K) (hr.units)) (pv 6) (pe_tup (pa_cons pe_str (pa_cons pe_non pa_nil))) (nomark _)) (pw_or1 (pt_cmpR (DK.op_ne (K := K) (hr.units)) (pv 11) (pe_tup (pa_cons pe_str (pa_cons pe_non pa_nil))) (nomark _)))))
  (pss_one (ps_ret pe_bl))
  pss_nil))
  (pss_cons (ps_if (PW.pt (pw_or (pt_cmpR (DK.op_ne (K := K) (hr.units)) (pe_ix (DK.ix (K := K)) (pv 6) pe_int (fun _ _ => rfl)) pe_str (nomark _)) (pw_or (pt_not (pt_val (pe_callB (DK.isi (K := K)) (by rfl) T.z_isinstance (by decide +kernel) (pa_cons (pe_ix (DK.ix (K := K)) (pv 6) pe_int (fun _ _ => rfl)) (pa_cons (pe_tyn (n := "tuple") (by rfl) T.z_tuple (by decide +kernel)) pa_nil))))) (pw_or1 (pt_cmpR (DK.op_ne (K := K) (hr.units)) (pe_callB (DK.len (K := K)) (by rfl) T.z_len (by decide +kernel) (pa_cons (pe_ix (DK.ix (K := K)) (pv 6) pe_int (fun _ _ => rfl)) pa_nil)) pe_int (nomark _))))))
  (pss_one (ps_ret pe_bl))
  pss_nil)
  (pss_cons (ps_asg (pe_ix (DK.ix (K := K)) (pv 6) pe_int (fun _ _ => rfl)) (DK.pg_tup (K := K) rfl (pgs_cons (pg_name (i := 13) sc_law.nd rfl (by first | exact .inl rfl | exact .inr rfl)) (pgs_cons (pg_name (i := 14) sc_law.nd rfl (by first | exact .inl rfl | exact .inr rfl)) pgs_nil))))
  (pss_cons (ps_if (PW.pt (pw_or (pt_not (pt_val (pe_cx c__law_same hr (by omega) (by rfl) (passes_call (takes_of rfl rfl rfl rfl) (fun _ _ _ _ z => z)) (pa_cons (pv 13) (pa_cons (pe_cx c__law_w_lowest hr (by omega) (by rfl) (passes_call (takes_of rfl rfl rfl rfl) (fun _ _ _ _ z => z)) (pa_cons (pv 9) (pa_cons (pv 10) pa_nil))) pa_nil))))) (pw_or1 (pt_cmpR (DK.op_ne (K := K) (hr.units)) (pv 14) (DK.sortSet (K := K) rfl (by rfl) T.z_sorted (by rfl) T.z_set (pv 14)) (nomark _)))))
  (pss_one (ps_ret pe_bl))
  pss_nil)
  (pss_cons (ps_if (PW.pt (pw_or (pt_cmpR (DK.op_ne (K := K) (hr.units)) (pe_cx c__law_weight hr (by omega) (by rfl) (passes_call (takes_of rfl rfl rfl rfl) (fun _ _ _ _ z => z)) (pa_cons (pv 8) (pa_cons (pv 14) (pa_cons (pv 7) pa_nil)))) (pv 9) (nomark _)) (pw_or1 (pt_cmpR op_gtK (pe_callB (DK.len (K := K)) (by rfl) T.z_len (by decide +kernel) (pa_cons (pv 14) pa_nil)) (pv 3) (nomark _)))))
  (pss_one (ps_ret pe_bl))
  pss_nil)
  (pss_cons (ps_if (pt_not (pt_val (pe_callB (DK.all (K := K)) (by rfl) T.z_all (by decide +kernel) (pa_cons (pe_lc (own := [("_law_number", 15)]) (g := (gName 15)) (tt := tYes) rfl sc_law.nd (DK.pi_seq (K := K) (pv 14)) (blkOk_by (own := [("_law_number", 15)]) (N := n_law) (sc := (defScope s_law)) (by first | decide +kernel | kernel_rfl)) (fun _ _ _ _ _ => (pg_name (i := 15) sc_law.nd rfl (by first | exact .inl rfl | exact .inr rfl))) (fun _ _ _ _ _ => pts_nil) (fun _ _ _ _ _ => (pe_cmpR (DK.op_in (K := K)) (pv 15) (pe_lc (own := [("_law_one", 18)]) (g := (gName 18)) (tt := tYes) rfl sc_law.nd (DK.pi_seq (K := K) (pv 8)) (blkOk_by (own := [("_law_one", 18)]) (N := n_law) (sc := _) (by first | decide +kernel | kernel_rfl)) (fun _ _ _ _ _ => (pg_name (i := 18) sc_law.nd rfl (by first | exact .inl rfl | exact .inr rfl))) (fun _ _ _ _ _ => pts_nil) (fun _ _ _ _ _ => (pe_op op_modK (pe_callTy call_intK (by rfl) T.z_int (by decide +kernel) (pa_cons (pe_ix (DK.ix (K := K)) (pv 18) pe_int (fun _ _ => rfl)) pa_nil)) (pv 7)))) (by rfl)))) pa_nil))))
  (pss_one (ps_ret pe_bl))
  pss_nil)
  (pss_one (ps_if (PW.pt (pw_or (pt_not (pt_val (pe_cx c__law_is_zero hr (by omega) (by rfl) (passes_call (takes_of rfl rfl rfl rfl) (fun _ _ _ _ z => z)) (pa_cons (pv 7) (pa_cons (pv 3) (pa_cons (pv 14) pa_nil)))))) (pw_or1 (pt_not (pt_val (pe_cx c__law_row_right hr (by omega) (by rfl) (passes_call (takes_of rfl rfl rfl rfl) (fun _ _ _ _ z => z)) (pa_cons (pv 7) (pa_cons (pv 3) (pa_cons (pv 8) (pa_cons (pv 4) (pa_cons (pe_ix (DK.ix (K := K)) (pv 11) pe_int (fun _ _ => rfl)) (pa_cons (pv 9) pa_nil))))))))))))
  (pss_one (ps_ret pe_bl))
  pss_nil)))))))))))))))))))
  (pss_one (ps_ret (pe_cmpR (DK.op_eq (K := K) (hr.units)) (DX.pe_lamT (q := qL) T.f__law_tried sc__law_tried rfl (by first | exact .inl rfl | exact .inr (.inl rfl)) (fun g cdv f c' s H tl act => d__law_tried (K := K) T rfl act) TB rfl MT HU hr (LamX.lamS_by (by first | decide +kernel | kernel_rfl)) (fun A outer s H E f c' hr => (pe_cx c_heaviest hr (by omega) (by rfl) (passes_call (takes_of rfl rfl rfl rfl) (fun _ _ _ _ z => z)) (pa_cons pe_int (pa_cons pe_int (pa_cons (pe_lst (pa_cons (pe_tup (pa_cons pe_int (pa_cons pe_int pa_nil))) pa_nil)) pa_nil)))))) (pe_tup (pa_cons pe_str (pa_cons pe_non pa_nil))) (nomark _)))))), ?_⟩)
  · obtain ⟨a, ns, rfl, _⟩ := h
    rfl
  · obtain ⟨a, ns, rfl, hs, ht, hq⟩ := h
    refine ⟨_, rfl, a, ns, rfl, hs, fun l st hl hst hne => ?_⟩
    have S0 := law_sr (K := K) (q := qL) (ns := ns) hl hst hne ht (law_slots (a := a) (st := st) (N := n_law) (n := 17) rfl).1 (law_slots (a := a) (st := st) (N := n_law) (n := 17) rfl).2
    have VT := lawC_tab (K := K) (s := st) (l := l) (tL := A.tL) (q := qL) (h := upd (upd H l (.lst (ns.map V.int))) st (.lst [.ref l, .int 0, .int 0, .int 11])) upd_same (by rw [upd_ne hne, upd_same])
    have SB := strmT_sub (c := lawC K st l A.tL qL (upd (upd H l (.lst (ns.map V.int))) st (.lst [.ref l, .int 0, .int 0, .int 11]))) (a := st) (l := l) (Tb := [(A.tL, qL)]) rfl rfl
    generalize upd (upd H l (.lst (ns.map V.int))) st (.lst [.ref l, .int 0, .int 0, .int 11]) = h0 at S0 SB VT
    dsimp only [gName]
    refine enter (Ψ := { nx := fun _ => False, rt := fun d _ => d = .bl true }) ?_ S0 ?_
    rotate_left
    · exact ⟨fun _ _ _ _ _ _ z => z.elim, fun _ _ _ _ _ _ z => z.elim, fun _ _ _ _ _ _ z => z.elim, fun v σ' k' h' d ς' S' e r z => by
        subst z
        cases r
        exact hq h'⟩
    refine ws_cut (LS st 2400) ?_ ?_
    · refine ws_for (wi_rng1 (wl_cons (we_int (wl_nil ⟨6, rfl, by omega, by omega, ?_⟩))))
      refine ⟨fun i => LS st (400 * i), LS.mk (x0 := none) (Nat.le_refl _), ?_, fun ς z => z⟩
      rintro i d0 ς hi ⟨hb⟩
      have hi6 : i < 6 := (rngD_get hi).2
      refine wg_nm (by rfl) ?_
      dsimp only [List.set]
      -- prime, degree
      refine ws_seq (ws_asg (we_op ?_))
      repeat (walk_at "s1")
      refine we_draw SB (by rfl) (by omega) (by omega) (by first | omega | (dsimp only; omega)) fun y y1 y2 => ?_
      obtain ⟨p, dm, ea, h1, h5, hdm⟩ := pd_of y1 y2
      obtain ⟨p1, p2⟩ := prm_le h1
      refine rd_ix rfl ea (wg_tup rfl (wgs_cons (wg_nm (by rfl) (wgs_cons (wg_nm (by rfl) (wgs_nil ?_))))))
      dsimp only [List.set]
      clear ea y1 y2
      refine ws_seq (ws_asg (we_drawE SB (by rfl) (we_op (we_var rfl (we_int (rd_add_int ⟨(dm : Int) + 1, rfl, by omega, by omega, by first | omega | (dsimp only; omega), fun y y1 y2 => wg_nm (by rfl) ?_⟩))))))
      obtain ⟨d, rfl⟩ := Int.eq_ofNat_of_zero_le y1
      have hd : d ≤ 3 := by omega
      clear y1 y2
      dsimp only [List.set]
      -- coins, far
      refine ws_seq (ws_asg (we_tup (wl_cons (we_callR SB (X := fun _ _ _ _ => False) xok0 (wl_cons (we_var rfl (wl_cons (we_var rfl (wl_cons (we_int (wl_nil ⟨rfl, ⟨st, l, _, rfl, rfl, p, 5, rfl, h1, ⟨by omega, by omega⟩, by first | omega | (dsimp only; omega)⟩, ?_, fun _ _ _ _ z => z⟩)))))))))))
      rintro d' b' ⟨a2, as2, e2, p', m', cs, e3, rfl, lok, hb'⟩
      cases e2
      injection e3 with e3 e4
      injection e3 with e3
      injection e4 with e4 _
      injection e4 with e4
      subst e3 e4
      dsimp only at hb' ⊢
      refine wl_cons (we_op (we_int (we_drawE SB (by rfl) (we_op (we_var rfl (we_int (rd_sub ⟨p - 1, rfl, by omega, by omega, by first | omega | (dsimp only; omega), fun z z1 z2 => rd_add_int (wl_nil (szB rfl (wg_tup rfl (wgs_cons (wg_nm (by rfl) (wgs_cons (wg_nm (by rfl) (wgs_nil ?_))))))))⟩)))))))
      dsimp only [List.set]
      refine ws_seq (ws_asg (we_op (we_var rfl (we_op (we_var rfl (we_op (we_draw SB (by rfl) (by omega) (by omega) (by first | omega | (dsimp only; omega)) fun u u1 u2 => we_int (rd_sub (rd_mul (mul_small (by omega) (by omega)) (rd_add_int (wg_nm (by rfl) ?_)))))))))))
      dsimp only [List.set]
      obtain ⟨far, ef⟩ : ∃ far : Int, 1 + z + p * (u - 2) = far := ⟨_, rfl⟩
      rw [ef]
      have hf : far % p ≠ 0 := by
        rw [← ef, Int.add_mul_emod_self_left, Int.emod_eq_of_lt (by omega) (by omega)]
        omega
      have hf2 : -1000000 ≤ far ∧ far ≤ 1000000 := by
        have hu : u - 2 = -2 ∨ u - 2 = -1 ∨ u - 2 = 0 ∨ u - 2 = 1 := by omega
        rw [← ef]
        rcases hu with e | e | e | e <;> rw [e] <;> omega
      clear ef z1 z2 u1 u2
      have hc := lok.ok
      have few := hc.few
      refine ws_gen (LA st p d cs far (400 * i + 320)) (.mk (by first | omega | (dsimp only; omega))) ?_
      clear hb' lok
      rintro ς ⟨hb1⟩
      have wb := wsum_bd hc
      -- due, whole
      refine ws_seq (ws_par (wl_cons (we_callF (X := fun _ _ _ _ => False) xok0 (wl_cons (we_var rfl (wl_cons (we_var rfl (wl_cons (we_var rfl (wl_nil (co_ret rfl (gBW_eq h5 hd few) ?_)))))))))))
      rw [bwO_eq h1 (by omega) hc]
      refine wl_cons (we_cb (wl_cons (we_lcM (kg_tup (kgs_cons (by decide) (kgs_cons (by decide) kgs_nil))) (wi_seqV rfl rfl ?_))))
      refine ⟨sndD, lt_size (by rw [List.length_map]; omega), fun x hx oo acc => ?_, ?_⟩
      · obtain ⟨r, _, rfl⟩ := mem_pD hx
        refine wg_tup rfl (wgs_cons (wg_nm (by rfl) (wgs_cons (wg_nm (by rfl) (wgs_nil ?_)))))
        dsimp only [List.set, wipeD]
        exact we_var rfl ⟨rfl, rfl, rfl⟩
      rw [map_int sndD (·.2) fun r => rfl]
      refine wl_nil (rc_sum (wl_nil (parB (by rfl) (by rfl) ?_)))
      have ew2 : (cs.map (·.2)).sum = wsum cs := rfl
      rw [ew2]
      dsimp only [List.set]
      -- handed
      refine ws_seq (ws_asg (we_pick SB (by rfl) (we_lst (wl_cons (we_var rfl (wl_cons (we_cb (wl_cons (we_lcM (kg_name (by decide)) (wi_seqV rfl rfl ?_))))))))))
      refine ⟨toL, lt_size (by rw [List.length_map]; omega), fun x hx oo acc => ?_, ?_⟩
      · obtain ⟨r, _, rfl⟩ := mem_pD hx
        refine wg_nm (by rfl) ?_
        dsimp only [List.set, wipeD]
        refine we_cb (wl_cons (we_var rfl (wl_nil (rc_list (l := [.int r.1, .int r.2]) rfl ⟨rfl, rfl, rfl⟩))))
      have em : (cs.map pD).map toL = cs.map pL := by
        rw [List.map_map]
        rfl
      rw [em]
      refine wl_nil (rc_tup (l := cs.map pL) rfl (wl_nil (szB rfl ⟨_, rfl, (by show 0 < 2; decide), (by show 2 ≤ 1000000; decide), by first | omega | (dsimp only; omega), fun L hx => wg_nm (by rfl) ?_⟩)))
      have hL : Hand p cs L := by
        simp only [List.mem_cons, List.not_mem_nil, or_false] at hx
        rcases hx with rfl | rfl
        · exact hand1 hc
        · exact hand2 hc
      clear hx em
      dsimp only [List.set]
      -- told, row, kept
      have gh := gHeav_eq (A := A) h1 (by omega : d ≤ 20) hL.ok
      have gw := gWrong_eq (A := A) (far := far) h1 (by omega : d ≤ 20) hL.ok hf hf2 fun W ns e => (bestQ h1 (by omega) hc hf e).1
      refine ws_seq (ws_asg (we_triedF T VT rfl gh tried_h (fun c3 => wl_cons (we_var rfl (wl_cons (we_var rfl (wl_cons (we_var rfl (wl_nil ⟨rfl, rfl⟩))))))) ?_))
      refine wg_nm (by rfl) ?_
      dsimp only [List.set]
      refine ws_seq (ws_par (wl_cons (we_triedF T VT rfl gw tried_w (fun c3 => wl_cons (we_var rfl (wl_cons (we_var rfl (wl_cons (we_var rfl (wl_cons (we_var rfl (wl_nil ⟨rfl, rfl⟩))))))))) ?_)))
      refine wl_cons (we_callF (X := fun _ _ _ _ => False) xok0 (wl_cons (we_var rfl (wl_nil (co_ret rfl (hand1 hc).fr (wl_nil (parB (by rfl) (by rfl) ?_)))))))
      dsimp only [List.set]
      refine ws_cut (LB st p d cs far (toldH p d cs) (toldW p d cs far) ((bestO p d cs).map (·.1)) (400 * i + 330)) ?_ ?_
      · refine ws_if (wt_test (we_op (we_callF (X := fun _ _ _ _ => False) xok0 (wl_cons (we_var rfl (wl_nil (co_ret rfl hL.fr (we_var rfl (rd_ne_py (shT_rows _) (shT_rows _) ?_)))))))))
        rw [eqvT_rows]
        refine ⟨_, rfl, fun z => (nomatch z), fun _ => ?_⟩
        refine ws_next ?_
        exact .mk (by first | omega | (dsimp only; omega))
      rintro ς ⟨hb2⟩
      clear gh gw
      cases eb : bestO p d cs with
      | none =>
        have e1 : toldH p d cs = .tup [.str "none", .non] := by unfold toldH; rw [eb]
        have e2 : toldW p d cs far = .tup [.str "none", .non] := by unfold toldW; rw [eb]
        rw [e1, e2]
        refine ws_if (wt_test (we_op (we_var rfl (we_non (rd_is ⟨true, rfl, fun _ => ?_, fun z => (nomatch z)⟩)))))
        refine ws_if (wt_or (wt_test (we_op (we_var rfl ?_))))
        repeat (walk_at "s1")
        refine rd_ne_py (by decide +kernel) (by decide +kernel) ⟨false, rfl, fun _ => ?_, fun z => (nomatch z)⟩
        refine wt_test (we_op (we_var rfl ?_))
        repeat (walk_at "s1")
        refine rd_ne_py (by decide +kernel) (by decide +kernel) ⟨false, rfl, fun z => (nomatch z), fun _ => ?_⟩
        refine ws_next ?_
        exact .mk (by omega)
      | some x =>
        obtain ⟨W, bn⟩ := x
        obtain ⟨_, Q⟩ := bestQ h1 (by omega) hc hf eb
        have e1 : toldH p d cs = .tup [.str "told", .tup [pD (lowI W (wsum cs)), iL bn]] := by unfold toldH; rw [eb]
        have e2 : toldW p d cs far = .tup [.str "told", iL (padL (d + 1) (rowW p bn far))] := by unfold toldW; rw [eb]
        rw [e1, e2]
        clear e1 e2
        generalize padL (d + 1) (rowW p bn far) = row at Q
        refine ws_if (wt_test (we_op (we_var rfl (we_non (rd_is ⟨false, rfl, fun z => (nomatch z), fun _ => ?_⟩)))))
        refine ws_cut2 (LC st p d cs far W bn row (400 * i + 330)) ?_ ?_
        · refine ws_seq (ws_if (wt_or (wt_test (we_op (we_op (we_var rfl (we_int (rd_ix rfl (d := .str "told") atI_0 (we_str (rd_ne_py (by decide +kernel) (by decide +kernel) ⟨false, rfl, fun _ => ?_, fun z => (nomatch z)⟩))))))))))
          refine wt_or (wt_not (wt_test (we_cb (wl_cons (we_op (we_var rfl (we_int (rd_ix rfl (d := .tup [pD (lowI W (wsum cs)), iL bn]) atI_1 (wl_cons (we_ty (wl_nil (rc_isi (s := "tuple") rfl (by simp [Knd]) ?_))))))))))))
          refine ⟨_, rfl, fun _ => ?_, fun z => (nomatch z)⟩
          refine wt_test (we_op (we_cb (wl_cons (we_op (we_var rfl (we_int (rd_ix rfl (d := .tup [pD (lowI W (wsum cs)), iL bn]) atI_1 (wl_nil (rc_len rfl (we_int (rd_ne_int ⟨false, rfl, fun z => (nomatch z), fun _ => ?_⟩)))))))))))
          refine ws_next ?_
          refine ws_asg (we_op (we_var rfl (we_int (rd_ix rfl (d := .tup [pD (lowI W (wsum cs)), iL bn]) atI_1 (wg_tup rfl (wgs_cons (wg_nm (by rfl) (wgs_cons (wg_nm (by rfl) (wgs_nil ?_))))))))))
          dsimp only [List.set]
          exact .mk hb2
        rintro ς ⟨hb3⟩
        refine ws_cut (LC st p d cs far W bn row (400 * i + 330)) ?_ ?_
        · refine ws_if (wt_or (wt_not (wt_test (we_call (X := fun _ _ _ _ => False) xok0 (wl_cons (we_var rfl (wl_cons (we_callF (X := fun _ _ _ _ => False) xok0 (wl_cons (we_var rfl (wl_cons (we_var rfl (wl_nil (co_ret rfl (gLow_eq Q.pos wb.1 wb.2) (wl_nil ?_)))))))))))))))
          refine ⟨rfl, ⟨pD (lowI W (wsum cs)), rfl, by rfl⟩, ?_, fun _ _ _ _ z => z⟩
          rintro d' b' ⟨rfl, rfl⟩
          refine ⟨_, rfl, fun _ => ?_, fun z => (nomatch z)⟩
          refine wt_test (we_op (we_var rfl (we_sortSet (we_var rfl ⟨bn, rfl, by have := Q.few; omega, fun ms h1 h2 => ?_⟩))))
          rw [sorted_one h1 Q.ord h2]
          refine rd_ne_py (sh_ns bn) (sh_ns bn) ?_
          rw [show (D.lst (bn.map D.int)).toPy = (iL bn).toPy from rfl, eqv_ns]
          refine ⟨_, rfl, fun z => (nomatch z), fun _ => ?_⟩
          refine ws_next ?_
          exact .mk hb3
        rintro ς ⟨hb4⟩
        refine ws_cut (LC st p d cs far W bn row (400 * i + 330)) ?_ ?_
        · refine ws_if (wt_or (wt_test (we_op (we_callF (X := fun _ _ _ _ => False) xok0 (wl_cons (we_var rfl (wl_cons (we_var rfl (wl_cons (we_var rfl (wl_nil (co_ret rfl (gWt_eq (ns := bn) ⟨h5.1, p2⟩ few) ?_))))))))))))
          rw [Q.sum]
          refine we_var rfl (rd_ne_int ⟨_, rfl, fun _ => ?_, fun z => absurd z (by simp)⟩)
          refine wt_test (we_op (we_cb (wl_cons (we_var rfl (wl_nil (rc_lenI (we_var rfl (rd_gt ⟨_, rfl, fun z => absurd (of_decide_eq_true z) (by have := Q.few; omega), fun _ => ?_⟩))))))))
          refine ws_next ?_
          exact .mk hb4
        rintro ς ⟨hb5⟩
        refine ws_cut (LC st p d cs far W bn row (400 * i + 330)) ?_ ?_
        · refine ws_if (wt_not (wt_test (we_cb (wl_cons (we_lcM (kg_name (by decide)) (wi_seqV rfl rfl ?_))))))
          refine ⟨fun _ => .bl true, lt_size (by rw [List.length_map]; have := Q.few; omega), fun x hx oo acc => ?_, ?_⟩
          · obtain ⟨n, hn, rfl⟩ := List.mem_map.mp hx
            refine wg_nm (by rfl) ?_
            dsimp only [List.set, wipeD]
            refine we_op (we_var rfl (we_lcM (kg_name (by decide)) (wi_seqV rfl rfl ?_)))
            refine ⟨modD p, lt_size (by rw [List.length_map]; omega), fun x hx oo acc => ?_, ?_⟩
            · obtain ⟨c, _, rfl⟩ := mem_pD hx
              refine wg_nm (by rfl) ?_
              dsimp only [List.set, wipeD]
              exact we_op (we_cb (wl_cons (we_op (we_var rfl (we_int (rd_ix rfl (d := .int c.1) atI_0 (wl_nil (rc_int (we_var rfl (rd_mod (by omega) ⟨rfl, rfl, rfl⟩))))))))))
            rw [map_int (modD p) (fun c => c.1 % p) fun r => rfl]
            refine rd_in rfl (by rfl) (flat_iL _) ?_
            rw [any_iLm, decide_eq_true (Q.mem n hn)]
            exact ⟨rfl, rfl, rfl⟩
          refine wl_nil (rc_allF (f := fun _ => true) ?_)
          have e : ((bn.map D.int).all fun _ => true) = true := by simp
          rw [e]
          refine ⟨_, rfl, fun z => (nomatch z), fun _ => ?_⟩
          refine ws_next ?_
          exact .mk hb5
        rintro ς ⟨hb6⟩
        refine ws_if (wt_or (wt_not (wt_test (we_callF (X := fun _ _ _ _ => False) xok0 (wl_cons (we_var rfl (wl_cons (we_var rfl (wl_cons (we_var rfl (wl_nil (co_ret rfl (gZero_eq h5 hd (by have := Q.few; omega) Q.zero) ?_))))))))))))
        refine ⟨_, rfl, fun _ => ?_, fun z => (nomatch z)⟩
        refine wt_not (wt_test (we_callF (X := fun _ _ _ _ => False) xok0 (wl_cons (we_var rfl (wl_cons (we_var rfl (wl_cons (we_var rfl (wl_cons (we_var rfl (wl_cons (we_op (we_var rfl (we_int (rd_ix rfl (d := iL row) atI_1 (wl_cons (we_var rfl (wl_nil (co_ret rfl (gRow_eq h5 hd few Q.rok Q.far Q.here) ?_)))))))))))))))))))
        refine ⟨_, rfl, fun z => (nomatch z), fun _ => ?_⟩
        refine ws_next ?_
        exact .mk (by omega)
    rintro ς ⟨hb⟩
    refine ws_ret (we_op (we_triedF T VT rfl two_none .NoPoly (fun c3 => wl_cons (we_int (wl_cons (we_int (wl_cons (we_lst (wl_cons (we_tup (wl_cons (we_int (wl_cons (we_int (wl_nil (szB rfl (wl_nil (szB rfl (wl_nil ⟨rfl, rfl⟩))))))))))))))))) ?_))
    repeat (walk_at "s1")
    refine rd_eq_py (by decide +kernel) (by decide +kernel) ?_
    exact rfl
end
end K10

set_option Elab.async false
set_option linter.all false
set_option maxRecDepth 100000
set_option maxHeartbeats 4000000
namespace K10
open PySem PySem.Spec PyProof.Rows L2 DL
def adK (K : PySem.W.Frag) : Ad := ⟨He.ga K "TalkError", He.ga K "BadPrime", He.ga K "BadNumber", He.ga K "BadNumbers", He.ga K "UnlikePrimes", He.ga K "BadCoin", He.ga K "BadDegree", He.ga K "NoPoly", He.ga K "Poly", He.codeOf K ("law", none), He.tabOf K (He.codeOf K ("law", none))⟩
theorem tx {K : PySem.W.Frag} {h : Heap} {mg : Str → Option Value} {w : World} (X : K.In h) (G : h.Ns mainGlobals mg) (c : DY.SaysY fileS fas fns [] xds exs tfs w h K) : Tx R.prog K mg (adK K) := by
  have sn : (R.prog.main.scope.names.lookup ("super" : Str)).isSome = false := by decide +kernel
  exact {
    x_BadPrime := ⟨_, DY.XD.txt X G (c.x x_BadPrime (List.mem_of_getElem? (i := 0) rfl)) (c.ok x_BadPrime (List.mem_of_getElem? (i := 0) rfl)) xs_BadPrime c.sup c.any sn⟩
    x_BadNumber := ⟨_, DY.XD.txt X G (c.x x_BadNumber (List.mem_of_getElem? (i := 1) rfl)) (c.ok x_BadNumber (List.mem_of_getElem? (i := 1) rfl)) xs_BadNumber c.sup c.any sn⟩
    x_BadCoin := ⟨_, DY.XD.txt X G (c.x x_BadCoin (List.mem_of_getElem? (i := 2) rfl)) (c.ok x_BadCoin (List.mem_of_getElem? (i := 2) rfl)) xs_BadCoin c.sup c.any sn⟩
    x_UnlikePrimes := ⟨_, DY.XD.txt X G (c.x x_UnlikePrimes (List.mem_of_getElem? (i := 3) rfl)) (c.ok x_UnlikePrimes (List.mem_of_getElem? (i := 3) rfl)) xs_UnlikePrimes c.sup c.any sn⟩
    x_BadNumbers := ⟨_, DY.XD.txt X G (c.x x_BadNumbers (List.mem_of_getElem? (i := 4) rfl)) (c.ok x_BadNumbers (List.mem_of_getElem? (i := 4) rfl)) xs_BadNumbers c.sup c.any sn⟩
    x_BadDegree := ⟨_, DY.XD.txt X G (c.x x_BadDegree (List.mem_of_getElem? (i := 5) rfl)) (c.ok x_BadDegree (List.mem_of_getElem? (i := 5) rfl)) xs_BadDegree c.sup c.any sn⟩
    x_NoPoly := ⟨_, DY.XD.txt X G (c.x x_NoPoly (List.mem_of_getElem? (i := 6) rfl)) (c.ok x_NoPoly (List.mem_of_getElem? (i := 6) rfl)) xs_NoPoly c.sup c.any sn⟩
    e_BadPrime_NoPoly := He.exm_ok (He.SaysD.facts c.t.d (List.mem_of_getElem? (i := 77) rfl))
    e_BadNumber_NoPoly := He.exm_ok (He.SaysD.facts c.t.d (List.mem_of_getElem? (i := 78) rfl))
    e_BadCoin_NoPoly := He.exm_ok (He.SaysD.facts c.t.d (List.mem_of_getElem? (i := 79) rfl))
    e_UnlikePrimes_NoPoly := He.exm_ok (He.SaysD.facts c.t.d (List.mem_of_getElem? (i := 80) rfl))
    e_BadNumbers_NoPoly := He.exm_ok (He.SaysD.facts c.t.d (List.mem_of_getElem? (i := 81) rfl))
    e_BadDegree_NoPoly := He.exm_ok (He.SaysD.facts c.t.d (List.mem_of_getElem? (i := 82) rfl))
    e_NoPoly_NoPoly := He.exm_ok (He.SaysD.facts c.t.d (List.mem_of_getElem? (i := 83) rfl))
    f__wall := DY.fun_at X G c "_wall" s__wall ["k"] (List.mem_of_getElem? (i := 0) rfl) (List.mem_of_getElem? (i := 9) rfl) (fun _ _ _ _ _ _ us hl => match us, hl with | [_], _ => rfl)
    f_is_integer := DY.fun_at X G c "is_integer" s_is_integer ["thing"] (List.mem_of_getElem? (i := 1) rfl) (List.mem_of_getElem? (i := 10) rfl) (fun _ _ _ _ _ _ us hl => match us, hl with | [_], _ => rfl)
    f_is_list := DY.fun_at X G c "is_list" s_is_list ["thing"] (List.mem_of_getElem? (i := 2) rfl) (List.mem_of_getElem? (i := 11) rfl) (fun _ _ _ _ _ _ us hl => match us, hl with | [_], _ => rfl)
    f_first_odd := DY.fun_at X G c "first_odd" s_first_odd ["things"] (List.mem_of_getElem? (i := 3) rfl) (List.mem_of_getElem? (i := 12) rfl) (fun _ _ _ _ _ _ us hl => match us, hl with | [_], _ => rfl)
    f_lowest := DY.fun_at X G c "lowest" s_lowest ["top", "bottom"] (List.mem_of_getElem? (i := 4) rfl) (List.mem_of_getElem? (i := 13) rfl) (fun _ _ _ _ _ _ us hl => match us, hl with | [_, _], _ => rfl)
    f_check_prime := DY.fun_at X G c "check_prime" s_check_prime ["prime"] (List.mem_of_getElem? (i := 5) rfl) (List.mem_of_getElem? (i := 14) rfl) (fun _ _ _ _ _ _ us hl => match us, hl with | [_], _ => rfl)
    f_check_number := DY.fun_at X G c "check_number" s_check_number ["number"] (List.mem_of_getElem? (i := 6) rfl) (List.mem_of_getElem? (i := 15) rfl) (fun _ _ _ _ _ _ us hl => match us, hl with | [_], _ => rfl)
    f_turned := DY.fun_at X G c "turned" s_turned ["prime", "number"] (List.mem_of_getElem? (i := 7) rfl) (List.mem_of_getElem? (i := 16) rfl) (fun _ _ _ _ _ _ us hl => match us, hl with | [_, _], _ => rfl)
    f_is_coin := DY.fun_at X G c "is_coin" s_is_coin ["thing"] (List.mem_of_getElem? (i := 8) rfl) (List.mem_of_getElem? (i := 17) rfl) (fun _ _ _ _ _ _ us hl => match us, hl with | [_], _ => rfl)
    f_first_bad_coin := DY.fun_at X G c "first_bad_coin" s_first_bad_coin ["prime", "thing"] (List.mem_of_getElem? (i := 9) rfl) (List.mem_of_getElem? (i := 18) rfl) (fun _ _ _ _ _ _ us hl => match us, hl with | [_, _], _ => rfl)
    f_check_coins := DY.fun_at X G c "check_coins" s_check_coins ["prime", "thing"] (List.mem_of_getElem? (i := 10) rfl) (List.mem_of_getElem? (i := 19) rfl) (fun _ _ _ _ _ _ us hl => match us, hl with | [_, _], _ => rfl)
    f_check_like := DY.fun_at X G c "check_like" s_check_like ["one", "other"] (List.mem_of_getElem? (i := 11) rfl) (List.mem_of_getElem? (i := 20) rfl) (fun _ _ _ _ _ _ us hl => match us, hl with | [_, _], _ => rfl)
    f_worth_at := DY.fun_at X G c "worth_at" s_worth_at ["row", "number", "prime"] (List.mem_of_getElem? (i := 12) rfl) (List.mem_of_getElem? (i := 21) rfl) (fun _ _ _ _ _ _ us hl => match us, hl with | [_, _, _], _ => rfl)
    f_folded_at := DY.fun_at X G c "folded_at" s_folded_at ["one", "other", "place"] (List.mem_of_getElem? (i := 13) rfl) (List.mem_of_getElem? (i := 22) rfl) (fun _ _ _ _ _ _ us hl => match us, hl with | [_, _, _], _ => rfl)
    f_rooted := DY.fun_at X G c "rooted" s_rooted ["prime", "numbers"] (List.mem_of_getElem? (i := 14) rfl) (List.mem_of_getElem? (i := 23) rfl) (fun _ _ _ _ _ _ us hl => match us, hl with | [_, _], _ => rfl)
    f_is_shut := DY.fun_at X G c "is_shut" s_is_shut ["prime", "numbers"] (List.mem_of_getElem? (i := 15) rfl) (List.mem_of_getElem? (i := 24) rfl) (fun _ _ _ _ _ _ us hl => match us, hl with | [_, _], _ => rfl)
    f_best_set := DY.fun_at X G c "best_set" s_best_set ["prime", "degree", "coins"] (List.mem_of_getElem? (i := 16) rfl) (List.mem_of_getElem? (i := 25) rfl) (fun _ _ _ _ _ _ us hl => match us, hl with | [_, _, _], _ => rfl)
    f_check_all := DY.fun_at X G c "check_all" s_check_all ["prime", "degree", "coins"] (List.mem_of_getElem? (i := 17) rfl) (List.mem_of_getElem? (i := 26) rfl) (fun _ _ _ _ _ _ us hl => match us, hl with | [_, _, _], _ => rfl)
    f_heaviest := DY.fun_at X G c "heaviest" s_heaviest ["prime", "degree", "coins"] (List.mem_of_getElem? (i := 18) rfl) (List.mem_of_getElem? (i := 27) rfl) (fun _ _ _ _ _ _ us hl => match us, hl with | [_, _, _], _ => rfl)
    f_wrong := DY.fun_at X G c "wrong" s_wrong ["prime", "degree", "coins", "far"] (List.mem_of_getElem? (i := 19) rfl) (List.mem_of_getElem? (i := 28) rfl) (fun _ _ _ _ _ _ us hl => match us, hl with | [_, _, _, _], _ => rfl)
    f__law_w_worth := DY.fun_at X G c "_law_w_worth" s__law_w_worth ["_law_row", "_law_number", "_law_prime"] (List.mem_of_getElem? (i := 20) rfl) (List.mem_of_getElem? (i := 29) rfl) (fun _ _ _ _ _ _ us hl => match us, hl with | [_, _, _], _ => rfl)
    f__law_w_rows := DY.fun_at X G c "_law_w_rows" s__law_w_rows ["_law_prime", "_law_size"] (List.mem_of_getElem? (i := 21) rfl) (List.mem_of_getElem? (i := 30) rfl) (fun _ _ _ _ _ _ us hl => match us, hl with | [_, _], _ => rfl)
    f__law_w_lot := DY.fun_at X G c "_law_w_lot" s__law_w_lot ["_law_stream", "_law_prime", "_law_many"] (List.mem_of_getElem? (i := 22) rfl) (List.mem_of_getElem? (i := 31) rfl) (fun _ _ _ _ _ _ us hl => match us, hl with | [_, _, _], _ => rfl)
    f__law_w_coins := DY.fun_at X G c "_law_w_coins" s__law_w_coins ["_law_stream", "_law_prime", "_law_most"] (List.mem_of_getElem? (i := 23) rfl) (List.mem_of_getElem? (i := 32) rfl) (fun _ _ _ _ _ _ us hl => match us, hl with | [_, _, _], _ => rfl)
    f__law_w_lowest := DY.fun_at X G c "_law_w_lowest" s__law_w_lowest ["_law_top", "_law_bottom"] (List.mem_of_getElem? (i := 24) rfl) (List.mem_of_getElem? (i := 33) rfl) (fun _ _ _ _ _ _ us hl => match us, hl with | [_, _], _ => rfl)
    f__law_w_best_worth := DY.fun_at X G c "_law_w_best_worth" s__law_w_best_worth ["_law_prime", "_law_degree", "_law_coins"] (List.mem_of_getElem? (i := 25) rfl) (List.mem_of_getElem? (i := 34) rfl) (fun _ _ _ _ _ _ us hl => match us, hl with | [_, _, _], _ => rfl)
    f__law_start := DY.fun_at X G c "_law_start" s__law_start ["_law_script"] (List.mem_of_getElem? (i := 26) rfl) (List.mem_of_getElem? (i := 35) rfl) (fun _ _ _ _ _ _ us hl => match us, hl with | [_], _ => rfl)
    f__law_draw := DY.fun_at X G c "_law_draw" s__law_draw ["_law_stream", "_law_many"] (List.mem_of_getElem? (i := 27) rfl) (List.mem_of_getElem? (i := 36) rfl) (fun _ _ _ _ _ _ us hl => match us, hl with | [_, _], _ => rfl)
    f__law_pick := DY.fun_at X G c "_law_pick" s__law_pick ["_law_stream", "_law_some"] (List.mem_of_getElem? (i := 28) rfl) (List.mem_of_getElem? (i := 37) rfl) (fun _ _ _ _ _ _ us hl => match us, hl with | [_, _], _ => rfl)
    f__law_mixed := DY.fun_at X G c "_law_mixed" s__law_mixed ["_law_stream", "_law_some"] (List.mem_of_getElem? (i := 29) rfl) (List.mem_of_getElem? (i := 38) rfl) (fun _ _ _ _ _ _ us hl => match us, hl with | [_, _], _ => rfl)
    f__law_same := DY.fun_at X G c "_law_same" s__law_same ["_law_found", "_law_due"] (List.mem_of_getElem? (i := 30) rfl) (List.mem_of_getElem? (i := 39) rfl) (fun _ _ _ _ _ _ us hl => match us, hl with | [_, _], _ => rfl)
    f__law_frozen := DY.fun_at X G c "_law_frozen" s__law_frozen ["_law_thing"] (List.mem_of_getElem? (i := 31) rfl) (List.mem_of_getElem? (i := 40) rfl) (fun _ _ _ _ _ _ us hl => match us, hl with | [_], _ => rfl)
    f__law_tried := DY.fun_at X G c "_law_tried" s__law_tried ["_law_ask"] (List.mem_of_getElem? (i := 32) rfl) (List.mem_of_getElem? (i := 41) rfl) (fun _ _ _ _ _ _ us hl => match us, hl with | [_], _ => rfl)
    f__law_weight := DY.fun_at X G c "_law_weight" s__law_weight ["_law_coins", "_law_numbers", "_law_prime"] (List.mem_of_getElem? (i := 33) rfl) (List.mem_of_getElem? (i := 42) rfl) (fun _ _ _ _ _ _ us hl => match us, hl with | [_, _, _], _ => rfl)
    f__law_is_zero := DY.fun_at X G c "_law_is_zero" s__law_is_zero ["_law_prime", "_law_degree", "_law_numbers"] (List.mem_of_getElem? (i := 34) rfl) (List.mem_of_getElem? (i := 43) rfl) (fun _ _ _ _ _ _ us hl => match us, hl with | [_, _, _], _ => rfl)
    f__law_row_right := DY.fun_at X G c "_law_row_right" s__law_row_right ["_law_prime", "_law_degree", "_law_coins", "_law_far", "_law_row", "_law_due"] (List.mem_of_getElem? (i := 35) rfl) (List.mem_of_getElem? (i := 44) rfl) (fun _ _ _ _ _ _ us hl => match us, hl with | [_, _, _, _, _, _], _ => rfl)
    f_law := DY.fun_at X G c "law" s_law ["_law_script"] (List.mem_of_getElem? (i := 36) rfl) (List.mem_of_getElem? (i := 45) rfl) (fun _ _ _ _ _ _ us hl => match us, hl with | [_], _ => rfl)
    m_Poly := DY.glo_at X G c (List.mem_of_getElem? (i := 8) rfl)
    k_Poly := DY.ckB_ok (He.ba c.more).1
    ne_Poly := DY.neB_ok (He.ba c.more).2
    n_Poly_prime := DY.noat_at c (List.mem_of_getElem? (i := 64) rfl) (List.mem_of_getElem? (i := 65) rfl)
    n_Poly_row := DY.noat_at c (List.mem_of_getElem? (i := 64) rfl) (List.mem_of_getElem? (i := 66) rfl)
    i_Poly := DY.init_at c "Poly" "Poly.__init__" s_Poly___init__ ["self", "prime", "numbers"] (List.mem_of_getElem? (i := 37) rfl) (List.mem_of_getElem? (i := 67) rfl) (fun _ _ _ _ _ _ us hl => match us, hl with | [_, _, _], _ => rfl)
    t_Poly_numbers := DY.meth_at c "Poly" "numbers" "Poly.numbers" s_Poly_numbers ["self"] (List.mem_of_getElem? (i := 38) rfl) (List.mem_of_getElem? (i := 68) rfl) (List.mem_of_getElem? (i := 64) rfl) (fun _ _ _ _ _ _ us hl => match us, hl with | [_], _ => rfl)
    t_Poly_degree := DY.meth_at c "Poly" "degree" "Poly.degree" s_Poly_degree ["self"] (List.mem_of_getElem? (i := 39) rfl) (List.mem_of_getElem? (i := 69) rfl) (List.mem_of_getElem? (i := 64) rfl) (fun _ _ _ _ _ _ us hl => match us, hl with | [_], _ => rfl)
    t_Poly_at := DY.meth_at c "Poly" "at" "Poly.at" s_Poly_at ["self", "number"] (List.mem_of_getElem? (i := 40) rfl) (List.mem_of_getElem? (i := 70) rfl) (List.mem_of_getElem? (i := 64) rfl) (fun _ _ _ _ _ _ us hl => match us, hl with | [_, _], _ => rfl)
    t_Poly___eq__ := DY.meth_at c "Poly" "__eq__" "Poly.__eq__" s_Poly___eq__ ["self", "other"] (List.mem_of_getElem? (i := 41) rfl) (List.mem_of_getElem? (i := 71) rfl) (List.mem_of_getElem? (i := 64) rfl) (fun _ _ _ _ _ _ us hl => match us, hl with | [_, _], _ => rfl)
    t_Poly___add__ := DY.meth_at c "Poly" "__add__" "Poly.__add__" s_Poly___add__ ["self", "other"] (List.mem_of_getElem? (i := 42) rfl) (List.mem_of_getElem? (i := 72) rfl) (List.mem_of_getElem? (i := 64) rfl) (fun _ _ _ _ _ _ us hl => match us, hl with | [_, _], _ => rfl)
    t_Poly___sub__ := DY.meth_at c "Poly" "__sub__" "Poly.__sub__" s_Poly___sub__ ["self", "other"] (List.mem_of_getElem? (i := 43) rfl) (List.mem_of_getElem? (i := 73) rfl) (List.mem_of_getElem? (i := 64) rfl) (fun _ _ _ _ _ _ us hl => match us, hl with | [_, _], _ => rfl)
    t_Poly___mul__ := DY.meth_at c "Poly" "__mul__" "Poly.__mul__" s_Poly___mul__ ["self", "other"] (List.mem_of_getElem? (i := 44) rfl) (List.mem_of_getElem? (i := 74) rfl) (List.mem_of_getElem? (i := 64) rfl) (fun _ _ _ _ _ _ us hl => match us, hl with | [_, _], _ => rfl)
    t_Poly_parted := DY.meth_at c "Poly" "parted" "Poly.parted" s_Poly_parted ["self", "other"] (List.mem_of_getElem? (i := 45) rfl) (List.mem_of_getElem? (i := 75) rfl) (List.mem_of_getElem? (i := 64) rfl) (fun _ _ _ _ _ _ us hl => match us, hl with | [_, _], _ => rfl)
    t_Poly_roots := DY.meth_at c "Poly" "roots" "Poly.roots" s_Poly_roots ["self"] (List.mem_of_getElem? (i := 46) rfl) (List.mem_of_getElem? (i := 76) rfl) (List.mem_of_getElem? (i := 64) rfl) (fun _ _ _ _ _ _ us hl => match us, hl with | [_], _ => rfl)
    z_abs := DY.free_at X G c (List.mem_of_getElem? (i := 46) rfl)
    z_all := DY.free_at X G c (List.mem_of_getElem? (i := 47) rfl)
    z_any := DY.free_at X G c (List.mem_of_getElem? (i := 48) rfl)
    z_bool := DY.free_at X G c (List.mem_of_getElem? (i := 49) rfl)
    z_dict := DY.free_at X G c (List.mem_of_getElem? (i := 50) rfl)
    z_enumerate := DY.free_at X G c (List.mem_of_getElem? (i := 51) rfl)
    z_int := DY.free_at X G c (List.mem_of_getElem? (i := 52) rfl)
    z_isinstance := DY.free_at X G c (List.mem_of_getElem? (i := 53) rfl)
    z_len := DY.free_at X G c (List.mem_of_getElem? (i := 54) rfl)
    z_list := DY.free_at X G c (List.mem_of_getElem? (i := 55) rfl)
    z_max := DY.free_at X G c (List.mem_of_getElem? (i := 56) rfl)
    z_range := DY.free_at X G c (List.mem_of_getElem? (i := 57) rfl)
    z_set := DY.free_at X G c (List.mem_of_getElem? (i := 58) rfl)
    z_sorted := DY.free_at X G c (List.mem_of_getElem? (i := 59) rfl)
    z_sum := DY.free_at X G c (List.mem_of_getElem? (i := 60) rfl)
    z_tuple := DY.free_at X G c (List.mem_of_getElem? (i := 61) rfl)
    z_zip := DY.free_at X G c (List.mem_of_getElem? (i := 62) rfl)
    v_MOST_PRIME := DY.int_at X G c (List.mem_of_getElem? (i := 63) rfl)
    c_law := fun a oc od fd osl cc hm lk e => DY.code_at X G c (List.mem_of_getElem? (i := 45) rfl) hm lk e }
/-- what the law's end asks -/
theorem lawAt {w : World} {K : PySem.W.Frag} {mg : Str → Option Value} {fa : Addr} {h : Heap} (X : K.In h) (G : h.Ns mainGlobals mg) (c : DY.SaysY fileS fas fns [] xds exs tfs w h K) (hmg : mg "law" = some (.ref fa)) :
    LamX.LawAtS PySem.Challenge.rw_weaktalks_k10_whole_heaviest w K (L2.CX R.prog w) 12 63 "_law_script" mg fa h := by
  have T := tx X G c
  obtain ⟨a, fd, F, m, bi⟩ := T.f_law
  have e := hmg.symm.trans m
  cases e
  refine ⟨fd, [((adK K).cL, (adK K).tL)], spLaw K (adK K), ?_, ?_, ?_, ?_, ?_, ?_⟩
  · intro p hp
    rw [List.mem_singleton.mp hp]
    exact c.empty _ List.mem_cons_self
  · intro p hp
    rw [List.mem_singleton.mp hp]
    exact c.out _ List.mem_cons_self
  · intro p hp
    rw [List.mem_singleton.mp hp]
    exact PySem.W.codeHd_of_K X (c.hd _ List.mem_cons_self)
  · intro s u
    obtain ⟨oc, od, kV, doc, pm, an, cdv, ct, osl, rfl, lk, hcd⟩ := F.ex
    exact .of_eq rfl
  · intro H a ns _ _ hT hS
    exact ⟨a, ns, rfl, hS, hT _ List.mem_cons_self, fun _ => rfl⟩
  · intro base _ _ hB
    exact ok_law T (hB _ List.mem_cons_self) F m

end K10
open PySem PySem.W PySem.Calls PyProof.Rows
set_option maxHeartbeats 0 in
theorem PySem.Challenge.cw_weaktalks_k10_whole_heaviest_holds : PySem.Challenge.rw_weaktalks_k10_whole_heaviest.Holds := by
  w_on; o_law
  refine HandSHeadRun.head_any (r := OpenLaw.row PySem.Challenge.rw_weaktalks_k10_whole_heaviest) (q := view (OpenLaw.row PySem.Challenge.rw_weaktalks_k10_whole_heaviest).prog [K10.iLaw]) (H := K10.hk) (ob := K10.ob) (M := 9000) (loose := K10.names) (d := HandSHeadRun.topDef (OpenLaw.row PySem.Challenge.rw_weaktalks_k10_whole_heaviest).prog K10.iLaw) (kwd := []) K10.ob_eq
    (by kernel_rfl) (fun s => by kernel_rfl) K10.run (by kernel_rfl) (by kernel_rfl) (by kernel_rfl) (by rfl) (by first | assumption | decide +kernel) (by decide +kernel) ⟨rfl, rfl, rfl, rfl, rfl, by decide +kernel⟩ ?hw ?hc
  case hw => w_witness2
  case hc =>
    refine LamX.walk_ofTsE (l := PySem.Challenge.rw_weaktalks_k10_whole_heaviest) (n := 63) (k := 12) (x := "_law_script") (CX := fun w => L2.CX K10.R.prog w) rfl (by decide) (by kernel_rfl) ⟨rfl, by decide, by decide⟩ ?F (fun _ _ _ _ _ z => by
      obtain ⟨_, _, _, _, _, _, _, _, _, _, _, _, z⟩ := z
      exact z)
    intro w mg fa h Y G hmg0
    obtain ⟨K, KX, c⟩ := Y
    have hmg : mg ("law" : PySem.Str) = some (.ref fa) := by
      have e : (HandSHeadRun.topDef (OpenLaw.row PySem.Challenge.rw_weaktalks_k10_whole_heaviest).prog K10.iLaw).name = ("law" : PySem.Str) := by kernel_rfl
      rw [← e]
      exact hmg0
    exact ⟨K, KX, K10.lawAt KX G c hmg⟩


