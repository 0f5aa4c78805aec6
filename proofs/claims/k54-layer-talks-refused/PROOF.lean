import PyProof.Rows.All
import Wide.All
import OpenK.AllK
import Wide.FinOn
import HandS.ForMost
import HandS.Walk
import HandS.ForExc
import HandS.ExcInit
import HandS.ExcField
import HandS.TryMany
import HandS.Lambda
import HandS.EndTab
import HandS.Style
import HandS.More
import HandS.TupAny
import HandS.Wide
import HandS.WordsDict
import HandS.IsInst
import HandS.Zip
import KE.KExcSuper
import KE.KExcInit
import KE.RegKSuper
import HandS.Dict
import HandS.Codes
import HandS.SlotsOwn
import PyProof.Rows.PlainNe
import KE.GoesEnum
import PyProof.EnumMake
import HandS.TryOnly
import HandS.Conv
import PyProof.StrBlock2
import HandS.TupMul
import KE.KEqNest
import PyProof.NeKinds
import HandS.Head0
import HandS.Head1
import HandS.Head2
import HandS.HeadEnd
import HandS.HeadHook1
import HandS.HeadHook2
import HandS.HeadHook3
import HandS.HeadHook4
import HandS.HeadWalk
import PySem.Challenge.RW_weaktalks_k54_layer_talks_refused
set_option Elab.async false
set_option linter.all false
set_option maxRecDepth 100000
set_option maxHeartbeats 2000000
namespace DL
open PySem PySem.Spec PyProof.Rows L2

/-- data, whole: what a value stands for where nothing is written to it any more -/
inductive D where
  | non | bl (b : Bool) | int (i : Int) | str (x : Str)
  | lst (l : List D) | tup (l : List D)
  | dct (ks : List Key) (l : List D)
  | obj (C : Addr) (ns : List Str) (l : List D)
  | ty (n : String)
  | ref (a : Addr)
  /-- an exception held by an except clause -/
  | exc (a dd C : Addr) (ns : List Str) (l : List D)

mutual
inductive Rep (K : PySem.W.Frag) (k : Hp) : V → D → Prop
  | non : Rep K k .non .non
  | bl (b : Bool) : Rep K k (.bl b) (.bl b)
  | int (i : Int) : Rep K k (.int i) (.int i)
  | str (x : Str) : Rep K k (.str x) (.str x)
  | lst {a : Addr} {vs : List V} {ds : List D} : k a = some (.lst vs) → RepL K k vs ds → Rep K k (.ref a) (.lst ds)
  | tup {a : Addr} {vs : List V} {ds : List D} : SqT K k a vs → RepL K k vs ds → Rep K k (.ref a) (.tup ds)
  | dct {a : Addr} {kvs : List (Key × V)} {ks : List Key} {ds : List D} : k a = some (.dK kvs) → kvs.map (·.1) = ks → RepL K k (kvs.map (·.2)) ds → Rep K k (.ref a) (.dct ks ds)
  | obj {a C dx : Addr} {fs : List (Str × V)} {ns : List Str} {ds : List D} : k a = some (.ins C dx fs) → fs.map (·.1) = ns → RepL K k (fs.map (·.2)) ds → Rep K k (.ref a) (.obj C ns ds)
  | ty (n : String) : Rep K k (.ty n) (.ty n)
  | ref (a : Addr) : Rep K k (.ref a) (.ref a)
  | exc {a dd C : Addr} {fs : List (Str × V)} {ns : List Str} {ds : List D} : k dd = some (.xd fs) → fs.map (·.1) = ns → RepL K k (fs.map (·.2)) ds → Rep K k (.ref a) (.exc a dd C ns ds)
inductive RepL (K : PySem.W.Frag) (k : Hp) : List V → List D → Prop
  | nil : RepL K k [] []
  | cons {v : V} {vs : List V} {d : D} {ds : List D} : Rep K k v d → RepL K k vs ds → RepL K k (v :: vs) (d :: ds)
end

section
variable {K : PySem.W.Frag} {k k' : Hp}
theorem Same.rd (e : Same k k') {a : Addr} {u : HO} (h : Rd k a u) : Rd k' a u := by
  rcases h with h | ⟨o, h⟩
  · exact .inl (e _ _ h)
  · exact .inr ⟨o, e _ _ h⟩
theorem Same.sqt (e : Same k k') {a : Addr} {xs : List V} (h : SqT K k a xs) : SqT K k' a xs := by
  rcases h with h | h
  · exact .inl (Same.rd e h)
  · exact .inr h
mutual
theorem Rep.mono (e : Same k k') : ∀ {v : V} {d : D}, Rep K k v d → Rep K k' v d
  | _, _, .non => .non
  | _, _, .bl b => .bl b
  | _, _, .int i => .int i
  | _, _, .str x => .str x
  | _, _, .lst h r => .lst (e _ _ h) (RepL.mono e r)
  | _, _, .tup h r => .tup (Same.sqt e h) (RepL.mono e r)
  | _, _, .dct h q r => .dct (e _ _ h) q (RepL.mono e r)
  | _, _, .obj h q r => .obj (e _ _ h) q (RepL.mono e r)
  | _, _, .ty n => .ty n
  | _, _, .ref a => .ref a
  | _, _, .exc h q r => .exc (e _ _ h) q (RepL.mono e r)
theorem RepL.mono (e : Same k k') : ∀ {vs : List V} {ds : List D}, RepL K k vs ds → RepL K k' vs ds
  | _, _, .nil => .nil
  | _, _, .cons h r => .cons (Rep.mono e h) (RepL.mono e r)
end
theorem RepL.length : ∀ {vs : List V} {ds : List D}, RepL K k vs ds → vs.length = ds.length
  | _, _, .nil => rfl
  | _, _, .cons _ r => by rw [List.length_cons, List.length_cons, RepL.length r]
theorem RepL.get : ∀ {vs : List V} {ds : List D} {i : Nat} {d : D}, RepL K k vs ds → ds[i]? = some d → ∃ v, vs[i]? = some v ∧ Rep K k v d
  | _, _, _, _, .nil, e => by simp at e
  | _, _, 0, _, .cons h _, e => by simp at e; subst e; exact ⟨_, rfl, h⟩
  | _, _, i + 1, d, .cons _ r, e => by
    obtain ⟨v, h1, h2⟩ := RepL.get (i := i) (d := d) r (by simpa using e)
    exact ⟨v, by simpa using h1, h2⟩
theorem RepL.getV : ∀ {vs : List V} {ds : List D} {i : Nat} {v : V}, RepL K k vs ds → vs[i]? = some v → ∃ d, ds[i]? = some d ∧ Rep K k v d
  | _, _, _, _, .nil, e => by simp at e
  | _, _, 0, _, .cons h _, e => by simp at e; subst e; exact ⟨_, rfl, h⟩
  | _, _, i + 1, v, .cons _ r, e => by
    obtain ⟨d, h1, h2⟩ := RepL.getV (i := i) (v := v) r (by simpa using e)
    exact ⟨d, by simpa using h1, h2⟩
theorem RepL.append : ∀ {vs ws : List V} {ds es : List D}, RepL K k vs ds → RepL K k ws es → RepL K k (vs ++ ws) (ds ++ es)
  | _, _, _, _, .nil, s => s
  | _, _, _, _, .cons h r, s => .cons h (RepL.append r s)
theorem RepL.take : ∀ {vs : List V} {ds : List D} (n : Nat), RepL K k vs ds → RepL K k (vs.take n) (ds.take n)
  | _, _, 0, _ => .nil
  | _, _, _ + 1, .nil => .nil
  | _, _, n + 1, .cons h r => .cons h (RepL.take n r)
theorem RepL.drop : ∀ {vs : List V} {ds : List D} (n : Nat), RepL K k vs ds → RepL K k (vs.drop n) (ds.drop n)
  | _, _, 0, r => r
  | _, _, _ + 1, .nil => .nil
  | _, _, n + 1, .cons _ r => RepL.drop n r
theorem RepL.reverse {vs : List V} {ds : List D} (h : RepL K k vs ds) : RepL K k vs.reverse ds.reverse := by
  induction h using RepL.rec (motive_1 := fun _ _ _ => True) with
  | nil => exact .nil
  | cons h r ih1 ih2 =>
    rw [List.reverse_cons, List.reverse_cons]
    exact RepL.append ih2 (.cons h .nil)
  | _ => trivial
theorem RepL.set {v : V} {d : D} (h : Rep K k v d) : ∀ {vs : List V} {ds : List D} (i : Nat), RepL K k vs ds → RepL K k (vs.set i v) (ds.set i d)
  | _, _, _, .nil => .nil
  | _, _, 0, .cons _ r => .cons h r
  | _, _, i + 1, .cons q r => .cons q (RepL.set h i r)
theorem RepL.eraseIdx : ∀ {vs : List V} {ds : List D} (i : Nat), RepL K k vs ds → RepL K k (vs.eraseIdx i) (ds.eraseIdx i)
  | _, _, _, .nil => .nil
  | _, _, 0, .cons _ r => r
  | _, _, i + 1, .cons q r => .cons q (RepL.eraseIdx i r)
theorem RepL.ints : ∀ {vs : List V} {ns : List Int}, RepL K k vs (ns.map D.int) → vs = ns.map V.int
  | _, [], .nil => rfl
  | _, n :: ns, .cons (.int _) r => by rw [List.map_cons, RepL.ints r]
theorem RepL.ofInts : ∀ (ns : List Int), RepL K k (ns.map V.int) (ns.map D.int)
  | [] => .nil
  | n :: ns => .cons (.int n) (RepL.ofInts ns)
end

/-! ### what grows -/
/-- k: what is known and stays; h: the whole; W: what may be written -/
structure Grow (W : Addr → Prop) (k h k' h' : Hp) : Prop where
  kk : Same k k'
  kh : Same k' h'
  hh : ∀ a o, ¬ W a → h a = some o → h' a = some o
  hd : ∀ a, h a ≠ none → h' a ≠ none
  dj : ∀ a, k a = none → h a ≠ none → k' a = none
  kt : ∀ a ps, k' a = some (.tbl ps) → k a = some (.tbl ps)
/-- no table of code objects -/
abbrev NT (o : HO) : Prop := ∀ ps, o ≠ .tbl ps
section
variable {W W' : Addr → Prop} {k h k' h' k2 h2 : Hp}
theorem Grow.refl (e : Same k h) : Grow W k h k h := ⟨Same.refl _, e, fun _ _ _ q => q, fun _ q => q, fun _ q _ => q, fun _ _ q => q⟩
theorem Grow.trans (a : Grow W k h k' h') (b : Grow W k' h' k2 h2) : Grow W k h k2 h2 :=
  ⟨a.kk.trans b.kk, b.kh, fun x o n q => b.hh x o n (a.hh x o n q), fun x q => b.hd x (a.hd x q), fun x q n => b.dj x (a.dj x q n) (a.hd x n), fun x ps q => a.kt x ps (b.kt x ps q)⟩
theorem Grow.wide (a : Grow W k h k' h') (s : ∀ x, W x → W' x) : Grow W' k h k' h' := ⟨a.kk, a.kh, fun x o n q => a.hh x o (fun z => n (s x z)) q, a.hd, a.dj, a.kt⟩
theorem same_new {H : Hp} {p : Addr} {o : HO} (h : H p = none) : Same H (upd H p o) := fun b x e => by
  rw [upd_ne (ne_of_none e h)]
  exact e
/-- a new object that is known from now on -/
theorem Grow.new {p : Addr} {o : HO} (e : Same k h) (n : h p = none) (t : NT o) : Grow W k h (upd k p o) (upd h p o) := by
  have nk : k p = none := e.free n
  refine ⟨same_new nk, fun b x q => ?_, fun a x _ q => same_new n a x q, fun a q => ?_, fun a q z => ?_, fun a ps q => ?_⟩
  · by_cases hb : b = p
    · subst hb
      rw [upd_same] at q ⊢
      exact q
    · rw [upd_ne hb] at q ⊢
      exact e _ _ q
  · by_cases hb : a = p
    · subst hb
      rw [upd_same]
      simp
    · rw [upd_ne hb]
      exact q
  · have hb : a ≠ p := fun y => z (by rw [y]; exact n)
    rw [upd_ne hb]
    exact q
  · by_cases hb : a = p
    · subst hb
      rw [upd_same] at q
      exact absurd (Option.some.inj q) (t ps)
    · rw [upd_ne hb] at q
      exact q
/-- a new object that is not known as yet -/
theorem Grow.newU {p : Addr} {o : HO} (e : Same k h) (n : h p = none) : Grow W k h k (upd h p o) :=
  ⟨Same.refl _, e.trans (same_new n), fun a x _ q => same_new n a x q, fun a q => by
    by_cases hb : a = p
    · subst hb
      rw [upd_same]
      simp
    · rw [upd_ne hb]
      exact q, fun a q _ => q, fun _ _ q => q⟩
end

/-- a mutable object -/
inductive MO where
  | lst (l : List D)
  | ins (C dx : Addr) (ns : List Str) (l : List D)
  | dct (ks : List Key) (l : List D)
/-- it stands at o -/
def MoR (K : PySem.W.Frag) (k h : Hp) (o : Addr) : MO → Prop
  | .lst ds => ∃ vs, h o = some (.lst vs) ∧ RepL K k vs ds
  | .ins C dx ns ds => ∃ fs : List (Str × V), h o = some (.ins C dx fs) ∧ fs.map (·.1) = ns ∧ RepL K k (fs.map (·.2)) ds
  | .dct ks ds => ∃ kvs : List (Key × V), h o = some (.dK kvs) ∧ kvs.map (·.1) = ks ∧ RepL K k (kvs.map (·.2)) ds

/-- what is written through a call and stays in its form: W, and its form I by a count -/
def IsExt : HO → Prop
  | .ext _ => True
  | _ => False
structure Res where
  W : Addr → Prop
  I : Nat → Hp → Prop
  st : ∀ b h h', (∀ a o, W a ∨ IsExt o → h a = some o → h' a = some o) → I b h → I b h'
def Res.none : Res := ⟨fun _ => False, fun _ _ => True, fun _ _ _ _ h => h⟩

/-- where one stands: slots, mutable objects, the count -/
structure Sta where
  δ : List (Option D)
  m : List (Addr × MO) := []
  b : Nat := 0

/-- the def's entry -/
structure Cn where
  K : PySem.W.Frag
  R : Res
  k0 : Hp
  h0 : Hp
  /-- all mutable objects are the def's own -/
  fr : Bool := true
  /-- what was known at a place that all later states bear -/
  kb : Hp := fun _ => none

structure SR (c : Cn) (ς : Sta) (σ : L2.St) (k h : Hp) : Prop where
  g : Grow c.R.W c.k0 c.h0 k h
  i : c.R.I ς.b h
  w : ∀ a, c.R.W a → c.k0 a = none ∧ c.h0 a ≠ none
  s : ∀ (i : Nat) (d : D), ς.δ[i]? = some (some d) → ∃ v, σ[i]? = some (some v) ∧ Rep c.K k v d
  m : ∀ p ∈ ς.m, k p.1 = none ∧ (c.h0 p.1 = none ∨ (c.fr = false ∧ c.R.W p.1)) ∧ MoR c.K k h p.1 p.2
  nd : (ς.m.map (·.1)).Nodup
  len : ς.δ.length = σ.length
  kb : Same c.kb k

section
variable {c : Cn} {ς : Sta} {σ : L2.St} {k h k' h' : Hp}
theorem SR.kh (S : SR c ς σ k h) : Same k h := S.g.kh
theorem MoR.step {K : PySem.W.Frag} {o : Addr} {mo : MO} (r : MoR K k h o mo) (e : Same k k') (hh : ∀ a u, h a = some u → h' a = some u) : MoR K k' h' o mo := by
  cases mo with
  | lst ds => obtain ⟨vs, q, r⟩ := r; exact ⟨vs, hh _ _ q, r.mono e⟩
  | ins C dx ns ds => obtain ⟨fs, q, n, r⟩ := r; exact ⟨fs, hh _ _ q, n, r.mono e⟩
  | dct ks ds => obtain ⟨kvs, q, n, r⟩ := r; exact ⟨kvs, hh _ _ q, n, r.mono e⟩
theorem MoR.there {K : PySem.W.Frag} {o : Addr} {mo : MO} (r : MoR K k h o mo) : h o ≠ none := by
  cases mo with
  | lst ds => obtain ⟨vs, q, _⟩ := r; rw [q]; simp
  | ins C dx ns ds => obtain ⟨fs, q, _⟩ := r; rw [q]; simp
  | dct ks ds => obtain ⟨kvs, q, _⟩ := r; rw [q]; simp
/-- objects are made, nothing that stood is written -/
theorem SR.grow (S : SR c ς σ k h) (g : Grow (fun _ => False) k h k' h') : SR c ς σ k' h' := by
  have hh : ∀ a o, h a = some o → h' a = some o := fun a o q => g.hh a o (fun z => z) q
  refine ⟨S.g.trans (g.wide fun _ z => z.elim), c.R.st _ _ _ (fun a o _ q => hh a o q) S.i, S.w, fun i d q => ?_, fun p hp => ?_, S.nd, S.len, S.kb.trans g.kk⟩
  · obtain ⟨v, e, r⟩ := S.s i d q
    exact ⟨v, e, r.mono g.kk⟩
  · obtain ⟨a, b, r⟩ := S.m p hp
    exact ⟨g.dj _ a r.there, b, r.step g.kk hh⟩
end
end DL

set_option Elab.async false
set_option linter.all false
set_option maxRecDepth 100000
set_option maxHeartbeats 2000000
namespace DL
open PySem PySem.Spec PyProof.Rows L2

/-! ### the judgements over data -/
def WE (c : Cn) (te : TE) (ς : Sta) (Φ : D → Sta → Prop) : Prop :=
  ∀ (σ : L2.St) (k h : Hp), SR c ς σ k h → ∀ Q : VK, (∀ v k' h' d ς', SR c ς' σ k' h' → Same k k' → Rep c.K k' v d → Φ d ς' → Q v h') → te σ h Q
def WL (c : Cn) (ta : TA) (ς : Sta) (Φ : List D → Sta → Prop) : Prop :=
  ∀ (σ : L2.St) (k h : Hp), SR c ς σ k h → ∀ Q : List V → Hp → Prop, (∀ vs k' h' ds ς', SR c ς' σ k' h' → Same k k' → RepL c.K k' vs ds → Φ ds ς' → Q vs h') → ta σ h Q
def WT (c : Cn) (tt : TT) (ς : Sta) (Φ : Bool → Sta → Prop) : Prop :=
  ∀ (σ : L2.St) (k h : Hp), SR c ς σ k h → ∀ Q : Bool → Hp → Prop, (∀ b k' h' ς', SR c ς' σ k' h' → Same k k' → Φ b ς' → Q b h') → tt σ h Q
/-- a target is given d -/
def WG (c : Cn) (g : TG) (d : D) (ς : Sta) (Φ : Sta → Prop) : Prop :=
  ∀ (σ : L2.St) (k h : Hp) (v : V), SR c ς σ k h → Rep c.K k v d → ∀ Q : L2.St → Hp → Prop, (∀ σ' k' h' ς', SR c ς' σ' k' h' → Same k k' → Φ ς' → Q σ' h') → g v σ h Q
def WGs (c : Cn) (g : TGs) (ds : List D) (ς : Sta) (Φ : Sta → Prop) : Prop :=
  ∀ (σ : L2.St) (k h : Hp) (vs : List V), SR c ς σ k h → RepL c.K k vs ds → ∀ Q : L2.St → Hp → Prop, (∀ σ' k' h' ς', SR c ς' σ' k' h' → Same k k' → Φ ς' → Q σ' h') → g vs σ h Q
structure Psi where
  nx : Sta → Prop
  rt : D → Sta → Prop
  bk : Sta → Prop := fun _ => False
  ct : Sta → Prop := fun _ => False
/-- what the ends bear, k onwards -/
structure EndOk (c : Cn) (k : Hp) (Ψ : Psi) (E : Ends) : Prop where
  nx : ∀ σ' k' h' ς', SR c ς' σ' k' h' → Same k k' → Ψ.nx ς' → E.nx σ' h'
  bk : ∀ σ' k' h' ς', SR c ς' σ' k' h' → Same k k' → Ψ.bk ς' → E.bk σ' h'
  ct : ∀ σ' k' h' ς', SR c ς' σ' k' h' → Same k k' → Ψ.ct ς' → E.ct σ' h'
  rt : ∀ v σ' k' h' d ς', SR c ς' σ' k' h' → Same k k' → Rep c.K k' v d → Ψ.rt d ς' → E.rt v h'
theorem EndOk.later {c : Cn} {k k' : Hp} {Ψ : Psi} {E : Ends} (o : EndOk c k Ψ E) (e : Same k k') : EndOk c k' Ψ E :=
  ⟨fun a b d f s q => o.nx a b d f s (e.trans q), fun a b d f s q => o.bk a b d f s (e.trans q), fun a b d f s q => o.ct a b d f s (e.trans q), fun a b d f g i s q => o.rt a b d f g i s (e.trans q)⟩
def WS (c : Cn) (ts : TS) (ς : Sta) (Ψ : Psi) : Prop :=
  ∀ (σ : L2.St) (k h : Hp), SR c ς σ k h → ∀ E : Ends, EndOk c k Ψ E → ts E σ h
/-- an operator's, a call's reading by data -/
def RD (K : PySem.W.Frag) (r : R2) (d1 d2 : D) (Φ : D → Prop) : Prop :=
  ∀ (k h : Hp) (v1 v2 : V), Same k h → Rep K k v1 d1 → Rep K k v2 d2 → ∀ Q : VK, (∀ v k' h' d, Grow (fun _ => False) k h k' h' → Rep K k' v d → Φ d → Q v h') → r v1 v2 h Q
def RU (K : PySem.W.Frag) (r : V → Hp → VK → Prop) (d1 : D) (Φ : D → Prop) : Prop :=
  ∀ (k h : Hp) (v1 : V), Same k h → Rep K k v1 d1 → ∀ Q : VK, (∀ v k' h' d, Grow (fun _ => False) k h k' h' → Rep K k' v d → Φ d → Q v h') → r v1 h Q
def RC (K : PySem.W.Frag) (r : List V → Hp → VK → Prop) (ds : List D) (Φ : D → Prop) : Prop :=
  ∀ (k h : Hp) (vs : List V), Same k h → RepL K k vs ds → ∀ Q : VK, (∀ v k' h' d, Grow (fun _ => False) k h k' h' → Rep K k' v d → Φ d → Q v h') → r vs h Q
/-- a thing walked: its items -/
structure StK (c : Cn) (k h : Hp) : Prop where
  same : Same k h
  sr : ∃ (ς : Sta) (σ : L2.St) (k' : Hp), SR c ς σ k' h ∧ Same k k'
structure WalkD (c : Cn) (J : It) (k : Hp) (ds : List D) : Prop where
  goes : ∀ i h, i < ds.length → StK c k h → J.go i h
  stops : ∀ h, StK c k h → J.stop ds.length h
  yields : ∀ i h x h' d, ds[i]? = some d → J.yld i h x h' → ∀ kc, Same k kc → StK c kc h → ∃ k', Grow (fun _ => False) kc h k' h' ∧ Rep c.K k' x d
def WI (c : Cn) (wi : TI) (ς : Sta) (Φ : List D → Sta → Prop) : Prop :=
  ∀ (σ : L2.St) (k h : Hp), SR c ς σ k h → ∀ R : It → Hp → Prop, (∀ J k' h' ds ς', SR c ς' σ k' h' → Same k k' → WalkD c J k' ds → Φ ds ς' → R J h') → wi σ h R

section
variable {c : Cn} {ς : Sta} {Φ : D → Sta → Prop} {Ψ : Psi}
/-! ### expressions -/
theorem we_var {i : Nat} {d : D} (e : ς.δ[i]? = some (some d)) (q : Φ d ς) : WE c (tVar i) ς Φ := fun σ k h S Q z => by
  obtain ⟨v, hv, r⟩ := S.s i d e
  exact ⟨v, hv, z v k h d ς S (Same.refl _) r q⟩
theorem we_int {i : Int} (q : Φ (.int i) ς) : WE c (tC (.int i)) ς Φ := fun σ k h S Q z => z _ k h _ ς S (Same.refl _) (.int i) q
theorem we_bl {b : Bool} (q : Φ (.bl b) ς) : WE c (tC (.bl b)) ς Φ := fun σ k h S Q z => z _ k h _ ς S (Same.refl _) (.bl b) q
theorem we_str {x : Str} (q : Φ (.str x) ς) : WE c (tC (.str x)) ς Φ := fun σ k h S Q z => z _ k h _ ς S (Same.refl _) (.str x) q
theorem we_non (q : Φ .non ς) : WE c (tC .non) ς Φ := fun σ k h S Q z => z _ k h _ ς S (Same.refl _) .non q
theorem we_ty {n : String} (q : Φ (.ty n) ς) : WE c (tC (.ty n)) ς Φ := fun σ k h S Q z => z _ k h _ ς S (Same.refl _) (.ty n) q
theorem we_ref {a : Addr} (q : Φ (.ref a) ς) : WE c (tC (.ref a)) ς Φ := fun σ k h S Q z => z _ k h _ ς S (Same.refl _) (.ref a) q
theorem we_mono {te : TE} {Φ' : D → Sta → Prop} (h : WE c te ς Φ') (q : ∀ d ς', Φ' d ς' → Φ d ς') : WE c te ς Φ := fun σ k hh S Q z =>
  h σ k hh S Q fun v k' h' d ς' S' e r p => z v k' h' d ς' S' e r (q d ς' p)
theorem ws_mono {ts : TS} {Ψ' : Psi} (h : WS c ts ς Ψ') (q1 : ∀ ς', Ψ'.nx ς' → Ψ.nx ς') (q2 : ∀ d b, Ψ'.rt d b → Ψ.rt d b) (q3 : ∀ ς', Ψ'.bk ς' → Ψ.bk ς') (q4 : ∀ ς', Ψ'.ct ς' → Ψ.ct ς') : WS c ts ς Ψ := fun σ k hh S E z =>
  h σ k hh S E ⟨fun a b d f s q p => z.nx a b d f s q (q1 _ p), fun a b d f s q p => z.bk a b d f s q (q3 _ p), fun a b d f s q p => z.ct a b d f s q (q4 _ p), fun a b d f g i s q r p => z.rt a b d f g i s q r (q2 _ _ p)⟩
theorem we_op {r : R2} {ta tb : TE} (h : WE c ta ς fun d1 ς1 => WE c tb ς1 fun d2 ς2 => RD c.K r d1 d2 fun d => Φ d ς2) : WE c (tOp r ta tb) ς Φ := fun σ k hh S Q z =>
  h σ k hh S _ fun v1 k1 h1 d1 ς1 S1 e1 r1 q1 => q1 σ k1 h1 S1 _ fun v2 k2 h2 d2 ς2 S2 e2 r2 q2 =>
    q2 k2 h2 v1 v2 S2.kh (r1.mono e2) r2 Q fun v k' h' d g rr q => z v k' h' d ς2 (S2.grow g) ((e1.trans e2).trans g.kk) rr q
theorem we_un {r : V → Hp → VK → Prop} {ta : TE} (h : WE c ta ς fun d1 ς1 => RU c.K r d1 fun d => Φ d ς1) : WE c (tUn r ta) ς Φ := fun σ k hh S Q z =>
  h σ k hh S _ fun v1 k1 h1 d1 ς1 S1 e1 r1 q1 => q1 k1 h1 v1 S1.kh r1 Q fun v k' h' d g rr q => z v k' h' d ς1 (S1.grow g) (e1.trans g.kk) rr q
theorem we_and {ta tb : TE} (h : WE c ta ς fun d1 ς1 => ∃ b, d1 = .bl b ∧ (b = true → WE c tb ς1 Φ) ∧ (b = false → Φ (.bl false) ς1)) : WE c (tAndV ta tb) ς Φ := fun σ k hh S Q z =>
  h σ k hh S _ fun v1 k1 h1 d1 ς1 S1 e1 r1 ⟨b, eb, q1, q2⟩ => by
    subst eb
    cases r1
    refine ⟨b, rfl, ?_⟩
    cases b with
    | true => exact iteT (q1 rfl σ k1 h1 S1 Q fun v k' h' d ς' S' e r q => z v k' h' d ς' S' (e1.trans e) r q)
    | false => exact iteF (z _ k1 h1 _ ς1 S1 e1 (.bl false) (q2 rfl))
theorem we_or {ta tb : TE} (h : WE c ta ς fun d1 ς1 => ∃ b, d1 = .bl b ∧ (b = false → WE c tb ς1 Φ) ∧ (b = true → Φ (.bl true) ς1)) : WE c (tOrV ta tb) ς Φ := fun σ k hh S Q z =>
  h σ k hh S _ fun v1 k1 h1 d1 ς1 S1 e1 r1 ⟨b, eb, q1, q2⟩ => by
    subst eb
    cases r1
    refine ⟨b, rfl, ?_⟩
    cases b with
    | false => exact iteF (q1 rfl σ k1 h1 S1 Q fun v k' h' d ς' S' e r q => z v k' h' d ς' S' (e1.trans e) r q)
    | true => exact iteT (z _ k1 h1 _ ς1 S1 e1 (.bl true) (q2 rfl))
theorem we_not {ta : TE} (h : WE c ta ς fun d1 ς1 => ∃ b, d1 = .bl b ∧ Φ (.bl (!b)) ς1) : WE c (tNotV ta) ς Φ := fun σ k hh S Q z =>
  h σ k hh S _ fun v1 k1 h1 d1 ς1 S1 e1 r1 ⟨b, eb, q1⟩ => by
    subst eb
    cases r1
    exact ⟨b, rfl, z _ k1 h1 _ ς1 S1 e1 (.bl _) q1⟩
theorem we_if {t : TT} {ta tb : TE} (h : WT c t ς fun b ς1 => (b = true → WE c ta ς1 Φ) ∧ (b = false → WE c tb ς1 Φ)) : WE c (tIf t ta tb) ς Φ := fun σ k hh S Q z =>
  h σ k hh S _ fun b k1 h1 ς1 S1 e1 ⟨q1, q2⟩ => by
    cases b with
    | true => exact iteT (q1 rfl σ k1 h1 S1 Q fun v k' h' d ς' S' e r q => z v k' h' d ς' S' (e1.trans e) r q)
    | false => exact iteF (q2 rfl σ k1 h1 S1 Q fun v k' h' d ς' S' e r q => z v k' h' d ς' S' (e1.trans e) r q)
/-! ### lists of arguments, displays -/
theorem wl_nil {Φ : List D → Sta → Prop} (q : Φ [] ς) : WL c tNil ς Φ := fun σ k h S Q z => z [] k h [] ς S (Same.refl _) .nil q
theorem wl_cons {Φ : List D → Sta → Prop} {te : TE} {ta : TA} (h : WE c te ς fun d ς1 => WL c ta ς1 fun ds ς2 => Φ (d :: ds) ς2) : WL c (tCons te ta) ς Φ := fun σ k hh S Q z =>
  h σ k hh S _ fun v k1 h1 d ς1 S1 e1 r1 q1 => q1 σ k1 h1 S1 _ fun vs k2 h2 ds ς2 S2 e2 r2 q2 => z (v :: vs) k2 h2 (d :: ds) ς2 S2 (e1.trans e2) (.cons (r1.mono e2) r2) q2
theorem we_lst {ta : TA} (h : WL c ta ς fun ds ς1 => ds.length ≤ sizeLine ∧ Φ (.lst ds) ς1) : WE c (tLst ta) ς Φ := fun σ k hh S Q z =>
  h σ k hh S _ fun vs k1 h1 ds ς1 S1 e1 r1 ⟨l, q⟩ => ⟨by rw [r1.length]; exact l, fun p n =>
    have g : Grow (fun _ => False) k1 h1 (upd k1 p (.lst vs)) (upd h1 p (.lst vs)) := Grow.new S1.kh n (by nofun)
    z (.ref p) _ _ _ ς1 (S1.grow g) (e1.trans g.kk) (.lst upd_same (r1.mono g.kk)) q⟩
/-- a new list that will be written -/
theorem we_lstM {ta : TA} (h : WL c ta ς fun ds ς1 => ds.length ≤ sizeLine ∧ ∀ p, (∀ x ∈ ς1.m, x.1 ≠ p) → Φ (.ref p) { ς1 with m := (p, .lst ds) :: ς1.m }) : WE c (tLst ta) ς Φ := fun σ k hh S Q z =>
  h σ k hh S _ fun vs k1 h1 ds ς1 S1 e1 r1 ⟨l, q⟩ => ⟨by rw [r1.length]; exact l, fun p n => by
    have g : Grow (fun _ => False) k1 h1 k1 (upd h1 p (.lst vs)) := Grow.newU S1.kh n
    have S2 := S1.grow g
    have np : ∀ x ∈ ς1.m, x.1 ≠ p := fun x hx e => (S1.m x hx).2.2.there (by rw [e]; exact n)
    refine z (.ref p) k1 _ _ _ ?_ e1 (.ref p) (q p np)
    refine ⟨S2.g, S2.i, S2.w, S2.s, fun x hx => ?_, ?_, S2.len, S2.kb⟩
    · rcases List.mem_cons.mp hx with e | hx
      · subst e
        refine ⟨S1.kh.free n, ?_, ⟨vs, upd_same, r1⟩⟩
        cases y : c.h0 p with
        | none => exact .inl rfl
        | some o => exact absurd n (S1.g.hd p (by rw [y]; simp))
      · exact S2.m x hx
    · rw [List.map_cons]
      refine List.nodup_cons.mpr ⟨fun hm => ?_, S1.nd⟩
      obtain ⟨x, hx, e⟩ := List.mem_map.mp hm
      exact np x hx e⟩
theorem we_tup {ta : TA} (h : WL c ta ς fun ds ς1 => ds.length ≤ sizeLine ∧ Φ (.tup ds) ς1) : WE c (tTup ta) ς Φ := fun σ k hh S Q z =>
  h σ k hh S _ fun vs k1 h1 ds ς1 S1 e1 r1 ⟨l, q⟩ => ⟨by rw [r1.length]; exact l, fun p n =>
    have g : Grow (fun _ => False) k1 h1 (upd k1 p (.tup vs)) (upd h1 p (.tup vs)) := Grow.new S1.kh n (by nofun)
    z (.ref p) _ _ _ ς1 (S1.grow g) (e1.trans g.kk) (.tup (.inl (.inl upd_same)) (r1.mono g.kk)) q⟩
theorem we_cb {r : List V → Hp → VK → Prop} {ta : TA} (h : WL c ta ς fun ds ς1 => RC c.K r ds fun d => Φ d ς1) : WE c (tCB r ta) ς Φ := fun σ k hh S Q z =>
  h σ k hh S _ fun vs k1 h1 ds ς1 S1 e1 r1 q1 => q1 k1 h1 vs S1.kh r1 Q fun v k' h' d g rr q => z v k' h' d ς1 (S1.grow g) (e1.trans g.kk) rr q
/-! ### tests -/
theorem wt_B {Φ : Bool → Sta → Prop} {te : TE} (h : WE c te ς fun d ς1 => ∃ b, d = .bl b ∧ Φ b ς1) : WT c (tB te) ς Φ := fun σ k hh S Q z =>
  h σ k hh S _ fun v k1 h1 d ς1 S1 e1 r1 ⟨b, eb, q⟩ => by
    subst eb
    cases r1
    exact ⟨b, rfl, z b k1 h1 ς1 S1 e1 q⟩
theorem wt_test {Φ : Bool → Sta → Prop} {te : TE} (h : WE c te ς fun d ς1 => ∃ b, d = .bl b ∧ Φ b ς1) : WT c (tTest te) ς Φ := fun σ k hh S Q z =>
  h σ k hh S _ fun v k1 h1 d ς1 S1 e1 r1 ⟨b, eb, q⟩ => by
    subst eb
    cases r1
    exact ⟨b, rfl, z b k1 h1 ς1 S1 e1 q⟩
theorem wt_and {Φ : Bool → Sta → Prop} {t u : TT} (h : WT c t ς fun b ς1 => (b = true → WT c u ς1 Φ) ∧ (b = false → Φ false ς1)) : WT c (tAnd t u) ς Φ := fun σ k hh S Q z =>
  h σ k hh S _ fun b k1 h1 ς1 S1 e1 ⟨q1, q2⟩ => by
    cases b with
    | true => exact iteT (q1 rfl σ k1 h1 S1 Q fun b k' h' ς' S' e q => z b k' h' ς' S' (e1.trans e) q)
    | false => exact iteF (z false k1 h1 ς1 S1 e1 (q2 rfl))
theorem wt_or {Φ : Bool → Sta → Prop} {t u : TT} (h : WT c t ς fun b ς1 => (b = false → WT c u ς1 Φ) ∧ (b = true → Φ true ς1)) : WT c (tOr t u) ς Φ := fun σ k hh S Q z =>
  h σ k hh S _ fun b k1 h1 ς1 S1 e1 ⟨q1, q2⟩ => by
    cases b with
    | false => exact iteF (q1 rfl σ k1 h1 S1 Q fun b k' h' ς' S' e q => z b k' h' ς' S' (e1.trans e) q)
    | true => exact iteT (z true k1 h1 ς1 S1 e1 (q2 rfl))
theorem wt_not {Φ : Bool → Sta → Prop} {t : TT} (h : WT c t ς fun b ς1 => Φ (!b) ς1) : WT c (tNot t) ς Φ := fun σ k hh S Q z =>
  h σ k hh S _ fun b k1 h1 ς1 S1 e1 q => z (!b) k1 h1 ς1 S1 e1 q
theorem wt_yes {Φ : Bool → Sta → Prop} (q : Φ true ς) : WT c tYes ς Φ := fun σ k hh S Q z => z true k hh ς S (Same.refl _) q
/-! ### statements -/
theorem ws_seq {t u : TS} (h : WS c t ς { Ψ with nx := fun ς1 => WS c u ς1 Ψ }) : WS c (tSeq t u) ς Ψ := fun σ k hh S E z =>
  h σ k hh S { E with nx := u E } ⟨fun a b d f s q p => p a b d s E (z.later q), z.bk, z.ct, z.rt⟩
theorem ws_next (q : Ψ.nx ς) : WS c tNext ς Ψ := fun σ k hh S E z => z.nx σ k hh ς S (Same.refl _) q
theorem ws_break (q : Ψ.bk ς) : WS c tBreak ς Ψ := fun σ k hh S E z => z.bk σ k hh ς S (Same.refl _) q
theorem ws_cont (q : Ψ.ct ς) : WS c tCont ς Ψ := fun σ k hh S E z => z.ct σ k hh ς S (Same.refl _) q
theorem ws_ret {te : TE} (h : WE c te ς fun d ς1 => Ψ.rt d ς1) : WS c (tRet te) ς Ψ := fun σ k hh S E z =>
  h σ k hh S _ fun v k1 h1 d ς1 S1 e1 r1 q => z.rt v σ k1 h1 d ς1 S1 e1 r1 q
theorem ws_retN (q : Ψ.rt .non ς) : WS c tRetN ς Ψ := fun σ k hh S E z => z.rt .non σ k hh .non ς S (Same.refl _) .non q
theorem ws_if {t : TT} {a b : TS} (h : WT c t ς fun x ς1 => (x = true → WS c a ς1 Ψ) ∧ (x = false → WS c b ς1 Ψ)) : WS c (tIfS t a b) ς Ψ := fun σ k hh S E z =>
  h σ k hh S _ fun x k1 h1 ς1 S1 e1 ⟨q1, q2⟩ => by
    cases x with
    | true => exact iteT (q1 rfl σ k1 h1 S1 E (z.later e1))
    | false => exact iteF (q2 rfl σ k1 h1 S1 E (z.later e1))
theorem ws_drop {te : TE} (h : WE c te ς fun _ ς1 => Ψ.nx ς1) : WS c (tDrop te) ς Ψ := fun σ k hh S E z =>
  h σ k hh S _ fun v k1 h1 d ς1 S1 e1 r1 q => z.nx σ k1 h1 ς1 S1 e1 q
theorem SR.set {σ : L2.St} {k h : Hp} {i : Nat} {v : V} {d : D} (S : SR c ς σ k h) (r : Rep c.K k v d) (hi : i < ς.δ.length) : SR c { ς with δ := ς.δ.set i (some d) } (σ.set i (some v)) k h := by
  refine ⟨S.g, S.i, S.w, fun j e q => ?_, S.m, S.nd, by rw [List.length_set, List.length_set]; exact S.len, S.kb⟩
  by_cases hj : j = i
  · subst hj
    have q' : (ς.δ.set j (some d))[j]? = some (some e) := q
    rw [List.getElem?_set_self hi] at q'
    cases q'
    exact ⟨v, by rw [List.getElem?_set_self (by rw [← S.len]; exact hi)], r⟩
  · have q' : (ς.δ.set i (some d))[j]? = some (some e) := q
    rw [List.getElem?_set_ne (fun z => hj z.symm)] at q'
    obtain ⟨w, e1, e2⟩ := S.s j e q'
    exact ⟨w, by rw [List.getElem?_set_ne (fun z => hj z.symm)]; exact e1, e2⟩
theorem wg_name {i : Nat} {d : D} {Φ : Sta → Prop} (hi : i < ς.δ.length) (q : Φ { ς with δ := ς.δ.set i (some d) }) : WG c (gName i) d ς Φ := fun σ k h v S r Q z =>
  z _ k h _ (S.set r hi) (Same.refl _) q
theorem wgs_nil {Φ : Sta → Prop} (q : Φ ς) : WGs c gNil [] ς Φ := fun σ k h vs S r Q z => by
  cases r
  exact ⟨rfl, z σ k h ς S (Same.refl _) q⟩
theorem wgs_cons {g : TG} {gs : TGs} {d : D} {ds : List D} {Φ : Sta → Prop} (h : WG c g d ς fun ς1 => WGs c gs ds ς1 Φ) : WGs c (gCons g gs) (d :: ds) ς Φ := fun σ k hh vs S r Q z => by
  cases r with
  | cons r1 r2 =>
    exact ⟨_, _, rfl, h σ k hh _ S r1 _ fun σ1 k1 h1 ς1 S1 e1 q1 => q1 σ1 k1 h1 _ S1 (r2.mono e1) Q fun σ2 k2 h2 ς2 S2 e2 q => z σ2 k2 h2 ς2 S2 (e1.trans e2) q⟩
theorem wg_tup {n : Nat} {gs : TGs} {ds : List D} {Φ : Sta → Prop} (hn : ds.length = n) (h : WGs c gs ds ς Φ) : WG c (gTup c.K n gs) (.tup ds) ς Φ := fun σ k hh v S r Q z => by
  cases r with
  | tup e r => exact ⟨_, _, rfl, Same.sqt S.kh e, by rw [r.length]; exact hn, h σ k hh _ S r Q z⟩
theorem ws_asg {te : TE} {g : TG} (h : WE c te ς fun d ς1 => WG c g d ς1 Ψ.nx) : WS c (tAsg te g) ς Ψ := fun σ k hh S E z =>
  h σ k hh S _ fun v k1 h1 d ς1 S1 e1 r1 q => q σ k1 h1 v S1 r1 _ fun σ2 k2 h2 ς2 S2 e2 q2 => z.nx σ2 k2 h2 ς2 S2 (e1.trans e2) q2
theorem ws_par {i j : Nat} {ta : TA} (h : WL c ta ς fun ds ς1 => ∃ d e, ds = [d, e] ∧ i < ς1.δ.length ∧ j < ς1.δ.length ∧ Ψ.nx { ς1 with δ := (ς1.δ.set i (some d)).set j (some e) }) : WS c (tPar i j ta) ς Ψ := fun σ k hh S E z =>
  h σ k hh S _ fun vs k1 h1 ds ς1 S1 e1 r1 ⟨d, e, ed, hi, hj, q⟩ => by
    subst ed
    cases r1 with
    | cons ra r1 => cases r1 with
      | cons rb r1 =>
        cases r1
        exact ⟨_, _, rfl, z.nx _ k1 h1 _ ((S1.set ra hi).set (i := j) rb (by show j < (ς1.δ.set i _).length; rw [List.length_set]; exact hj)) e1 q⟩
theorem ws_never {Ψ : Psi} (h : False) : WS c tNever ς Ψ := h.elim
end
end DL

set_option Elab.async false
set_option linter.all false
set_option maxRecDepth 100000
set_option maxHeartbeats 2000000
namespace DL
open PySem PySem.Spec PyProof.Rows L2

theorem WalkD.walk {c : Cn} {J : It} {k : Hp} {ds : List D} (w : WalkD c J k ds) : Walk J ds.length (fun h => StK c k h) (fun i h x h' => J.yld i h x h') :=
  ⟨fun i h hi e => w.goes i h hi e, fun h e => w.stops h e, fun _ _ _ _ _ _ y => y⟩

def wipeD (δ : List (Option D)) : List Nat → List (Option D)
  | [] => δ
  | v :: vs => (wipeD δ vs).set v none
theorem wipeD_length (δ : List (Option D)) : ∀ vs : List Nat, (wipeD δ vs).length = δ.length
  | [] => rfl
  | v :: vs => by unfold wipeD; rw [List.length_set, wipeD_length δ vs]
theorem wipeD_some {δ : List (Option D)} {i : Nat} {x : D} : ∀ {vs : List Nat}, (wipeD δ vs)[i]? = some (some x) → δ[i]? = some (some x) ∧ i ∉ vs
  | [], h => ⟨h, by simp⟩
  | v :: vs, h => by
    unfold wipeD at h
    by_cases hi : v = i
    · subst hi
      by_cases hv : v < (wipeD δ vs).length
      · rw [List.getElem?_set_self hv] at h; cases h
      · rw [List.getElem?_eq_none (by simpa using hv)] at h; cases h
    · rw [List.getElem?_set_ne hi] at h
      obtain ⟨h1, h2⟩ := wipeD_some h
      exact ⟨h1, by simp only [List.mem_cons, not_or]; exact ⟨fun e => hi e.symm, h2⟩⟩
theorem wipe_out {σ : L2.St} {i : Nat} : ∀ {vs : List Nat}, i ∉ vs → (wipe σ vs)[i]? = σ[i]?
  | [], _ => rfl
  | v :: vs, h => by
    unfold wipe
    simp only [List.mem_cons, not_or] at h
    rw [List.getElem?_set_ne (fun z => h.1 z.symm)]
    exact wipe_out h.2
theorem wipe_set {σ : L2.St} {i : Nat} {v : Option V} : ∀ {vs : List Nat}, i ∈ vs → wipe (σ.set i v) vs = wipe σ vs
  | [], h => by simp at h
  | w :: vs, h => by
    unfold wipe
    by_cases e : i ∈ vs
    · rw [wipe_set e]
    · have ew : i = w := by
        rcases List.mem_cons.mp h with e' | e'
        · exact e'
        · exact absurd e' e
      subst ew
      have key : ∀ us : List Nat, wipe (σ.set i v) us = (wipe σ us).set i v ∨ wipe (σ.set i v) us = wipe σ us := by
        intro us
        induction us with
        | nil => exact .inl rfl
        | cons u us ih =>
          unfold wipe
          rcases ih with ih | ih
          · rw [ih]
            by_cases eu : u = i
            · subst eu
              rw [List.set_set]
              exact .inr rfl
            · rw [List.set_comm _ _ (fun z => eu z.symm)]
              exact .inl rfl
          · rw [ih]
            exact .inr rfl
      rcases key vs with q | q
      · rw [q, List.set_set]
      · rw [q]
theorem wipe_idem {σ : L2.St} {vs : List Nat} : wipe (wipe σ vs) vs = wipe σ vs := by
  refine List.ext_getElem? fun i => ?_
  by_cases h : i ∈ vs
  · have key : ∀ (τ : L2.St) (us : List Nat), i ∈ us → ∀ x, (wipe τ us)[i]? ≠ some (some x) := fun τ us hm x z => (wipe_some z).2 hm
    have l1 : (wipe (wipe σ vs) vs).length = (wipe σ vs).length := wipe_length _ _
    cases a : (wipe (wipe σ vs) vs)[i]? with
    | none =>
      cases b : (wipe σ vs)[i]? with
      | none => rfl
      | some y =>
        have := List.getElem?_eq_none_iff.mp a
        have := (List.getElem?_eq_some_iff.mp b).1
        omega
    | some x =>
      cases b : (wipe σ vs)[i]? with
      | none =>
        have := List.getElem?_eq_none_iff.mp b
        have := (List.getElem?_eq_some_iff.mp a).1
        omega
      | some y =>
        cases x with
        | some x => exact absurd a (key _ _ h x)
        | none => cases y with
          | some y => exact absurd b (key _ _ h y)
          | none => rfl
  · rw [wipe_out h]
section
variable {c : Cn} {ς : Sta} {Φ : D → Sta → Prop} {Ψ : Psi}
theorem SR.wipe {σ : L2.St} {k h : Hp} (vs : List Nat) (S : SR c ς σ k h) : SR c { ς with δ := wipeD ς.δ vs } (wipe σ vs) k h := by
  refine ⟨S.g, S.i, S.w, fun j e q => ?_, S.m, S.nd, by rw [wipeD_length, wipe_length]; exact S.len, S.kb⟩
  obtain ⟨q1, q2⟩ := wipeD_some q
  obtain ⟨v, e1, e2⟩ := S.s j e q1
  exact ⟨v, by rw [wipe_out q2]; exact e1, e2⟩
/-- a target writes no slot but those that are wiped -/
def KG (g : TG) (vs : List Nat) : Prop := ∀ v σ h Q, g v σ h Q → g v σ h fun σ2 h2 => L2.wipe σ2 vs = L2.wipe σ vs ∧ Q σ2 h2
def KGs (g : TGs) (vs : List Nat) : Prop := ∀ v σ h Q, g v σ h Q → g v σ h fun σ2 h2 => L2.wipe σ2 vs = L2.wipe σ vs ∧ Q σ2 h2
theorem kg_name {i : Nat} {vs : List Nat} (hi : i ∈ vs) : KG (gName i) vs := fun v σ h Q q => ⟨wipe_set hi, q⟩
theorem kgs_nil {vs : List Nat} : KGs gNil vs := fun v σ h Q q => ⟨q.1, rfl, q.2⟩
theorem gName_mono : ∀ {i : Nat} {v : V} {σ : L2.St} {h : Hp} {Q Q' : L2.St → Hp → Prop}, (∀ a b, Q a b → Q' a b) → gName i v σ h Q → gName i v σ h Q' := fun q p => q _ _ p
theorem kgs_cons {i : Nat} {gs : TGs} {vs : List Nat} (hi : i ∈ vs) (h : KGs gs vs) : KGs (gCons (gName i) gs) vs := fun v σ hh Q q => by
  obtain ⟨x, r, e, q⟩ := q
  refine ⟨x, r, e, ?_⟩
  have q1 : gs r (σ.set i (some x)) hh Q := q
  have q2 := h _ _ _ _ q1
  show gs r (σ.set i (some x)) hh _
  rw [wipe_set hi] at q2
  exact q2
theorem kg_tup {K : PySem.W.Frag} {n : Nat} {gs : TGs} {vs : List Nat} (h : KGs gs vs) : KG (gTup K n gs) vs := fun v σ hh Q q => by
  obtain ⟨a, xs, e1, e2, e3, q⟩ := q
  exact ⟨a, xs, e1, e2, e3, h _ _ _ _ q⟩
/-! ### loops -/
theorem ws_for {wi : TI} {g : TG} {tb : TS} (h : WI c wi ς fun ds ς1 => ∃ Jv : Nat → Sta → Prop, Jv 0 ς1 ∧
    (∀ i d ς2, ds[i]? = some d → Jv i ς2 → WG c g d ς2 fun ς3 => WS c tb ς3 { nx := Jv (i + 1), ct := Jv (i + 1), bk := Ψ.nx, rt := Ψ.rt }) ∧ ∀ ς2, Jv ds.length ς2 → Ψ.nx ς2) : WS c (tFor wi g tb) ς Ψ := fun σ k hh S E z =>
  h σ k hh S _ fun J k1 h1 ds ς1 S1 e1 w ⟨Jv, j0, js, jd⟩ => for_it w.walk (fun i σ h => ∃ k ς, SR c ς σ k h ∧ Same k1 k ∧ Jv i ς) ⟨k1, ς1, S1, Same.refl _, j0⟩
    (fun i σ H _ ⟨k, ς, S, e, _⟩ => ⟨e.trans S.kh, ς, σ, k, S, e⟩)
    (fun i x σ H H' hi ⟨k, ς2, S2, e2, j2⟩ y => by
      obtain ⟨k', g', r'⟩ := w.yields i H x H' ds[i] (by simp [hi]) y k e2 ⟨S2.kh, _, _, k, S2, Same.refl _⟩
      refine js i ds[i] ς2 (by simp [hi]) j2 σ k' H' x (S2.grow g') r' _ fun σ3 k3 h3 ς3 S3 e3 q3 => q3 σ3 k3 h3 S3 _ ?_
      have ek : Same k k3 := g'.kk.trans e3
      exact ⟨fun a b d f s q p => ⟨b, f, s, (e2.trans ek).trans q, p⟩, fun a b d f s q p => z.nx a b d f s (((e1.trans e2).trans ek).trans q) p, fun a b d f s q p => ⟨b, f, s, (e2.trans ek).trans q, p⟩,
        fun a b d f g i s q r p => z.rt a b d f g i s (((e1.trans e2).trans ek).trans q) r p⟩)
    fun σ H ⟨k, ς, S, e, j⟩ => z.nx σ k H ς S (e1.trans e) (jd ς j)
theorem ws_while {t : TT} {tb : TS} (Jv : Nat → Sta → Prop) (m0 : Nat) (j0 : Jv m0 ς)
    (js : ∀ m ς1, Jv m ς1 → WT c t ς1 fun b ς2 => (b = true → WS c tb ς2 { nx := fun ς3 => ∃ m', m' < m ∧ Jv m' ς3, ct := fun ς3 => ∃ m', m' < m ∧ Jv m' ς3, bk := Ψ.nx, rt := Ψ.rt }) ∧ (b = false → Ψ.nx ς2)) : WS c (tWhile t tb) ς Ψ := fun σ k hh S E z => by
  refine ⟨fun m σ h => ∃ k' ς, SR c ς σ k' h ∧ Same k k' ∧ Jv m ς, ⟨m0, k, ς, S, Same.refl _, j0⟩, ?_⟩
  rintro m σ1 h1 ⟨k1, ς1, S1, e1, j1⟩
  refine js m ς1 j1 σ1 k1 h1 S1 _ fun b k2 h2 ς2 S2 e2 ⟨q1, q2⟩ => ?_
  cases b with
  | false => exact iteF (z.nx σ1 k2 h2 ς2 S2 (e1.trans e2) (q2 rfl))
  | true =>
    refine iteT ⟨fun σ h => ∃ k' ς m', SR c ς σ k' h ∧ Same k k' ∧ m' < m ∧ Jv m' ς, fun σ' h' ⟨k', ς', m', a, b, d, e⟩ => ⟨m', d, k', ς', a, b, e⟩, q1 rfl σ1 k2 h2 S2 _ ?_⟩
    have ek : Same k k2 := e1.trans e2
    exact ⟨fun a b d f s q ⟨m', p1, p2⟩ => ⟨b, f, m', s, ek.trans q, p1, p2⟩, fun a b d f s q p => z.nx a b d f s (ek.trans q) p, fun a b d f s q ⟨m', p1, p2⟩ => ⟨b, f, m', s, ek.trans q, p1, p2⟩,
      fun a b d f g i s q r p => z.rt a b d f g i s (ek.trans q) r p⟩
/-- a list comprehension; the new list is known behind it -/
theorem we_lc {wi : TI} {g : TG} {tt : TT} {te : TE} {vs : List Nat} (kg : KG g vs) (h : WI c wi ς fun ds ς1 => ∃ Jv : Nat → List D → Nat → Prop, Jv 0 [] ς1.b ∧
    (∀ i d acc b D, ds[i]? = some d → Jv i acc b → WG c g d { δ := wipeD ς1.δ vs, m := (D, .lst acc) :: ς1.m, b := b } fun ς2 => WT c tt ς2 fun x ς3 =>
      (x = true → WE c te ς3 fun e ς4 => acc.length < sizeLine ∧ ς4.m = (D, .lst acc) :: ς1.m ∧ Jv (i + 1) (acc ++ [e]) ς4.b) ∧ (x = false → ς3.m = (D, .lst acc) :: ς1.m ∧ Jv (i + 1) acc ς3.b)) ∧
    ∀ acc b, Jv ds.length acc b → Φ (.lst acc) { ς1 with b := b }) : WE c (tLc wi g tt te vs) ς Φ := fun σ k hh S Q z =>
  h σ k hh S _ fun J k1 h1 ds ς1 S1 e1 w ⟨Jv, j0, js, jd⟩ L nL => by
    have lower : ∀ {m : List (Addr × MO)} {δ : List (Option D)} {τ : L2.St} {b : Nat} {k2 h2 : Hp}, SR c ⟨δ, m, b⟩ τ k2 h2 → Same k1 k2 → SR c { ς1 with m := m, b := b } σ k2 h2 := fun {m δ τ b k2 h2} S2 e =>
      ⟨S2.g, S2.i, S2.w, fun i d q => by
        obtain ⟨v, a, r⟩ := S1.s i d q
        exact ⟨v, a, r.mono e⟩, S2.m, S2.nd, S1.len, S2.kb⟩
    have nk : k1 L = none := S1.kh.free nL
    have nm : ∀ x ∈ ς1.m, x.1 ≠ L := fun x hx e => (S1.m x hx).2.2.there (by rw [e]; exact nL)
    have n0 : c.h0 L = none := by
      cases y : c.h0 L with
      | none => rfl
      | some o => exact absurd nL (S1.g.hd L (by rw [y]; simp))
    refine lc_it w.walk (fun i h => ∃ k acc b, SR c { ς1 with m := (L, .lst acc) :: ς1.m, b := b } σ k h ∧ Same k1 k ∧ Jv i acc b) ⟨k1, [], ς1.b, ?_, Same.refl _, j0⟩ (fun i H _ ⟨k, acc, b, S, e, _⟩ => ⟨e.trans S.kh, _, _, k, S, e⟩) ?_ ?_
    · have g : Grow (fun _ => False) k1 h1 k1 (upd h1 L (.lst [])) := Grow.newU S1.kh nL
      have S2 := S1.grow g
      refine ⟨S2.g, S2.i, S2.w, S2.s, fun x hx => ?_, ?_, S2.len, S2.kb⟩
      · rcases List.mem_cons.mp hx with e | hx
        · subst e
          exact ⟨nk, .inl n0, [], upd_same, .nil⟩
        · exact S2.m x hx
      · rw [List.map_cons]
        refine List.nodup_cons.mpr ⟨fun hm => ?_, S1.nd⟩
        obtain ⟨x, hx, e⟩ := List.mem_map.mp hm
        exact nm x hx e
    · rintro i x H H' hi ⟨k, acc, b, S2, e2, j2⟩ y
      obtain ⟨k', g', r'⟩ := w.yields i H x H' ds[i] (by simp [hi]) y k e2 ⟨S2.kh, _, _, k, S2, Same.refl _⟩
      have S3 := (S2.grow g').wipe vs
      have q := js i ds[i] acc b L (by simp [hi]) j2 (L2.wipe σ vs) k' H' x S3 r' _ (fun σ4 k4 h4 ς4 S4 e4 q4 => q4 σ4 k4 h4 S4 (fun b H3 => if b = true then te σ4 H3 fun y H4 => ∃ ac, H4 L = some (.lst ac) ∧ ac.length < sizeLine ∧ (∃ k acc b, SR c { ς1 with m := (L, .lst acc) :: ς1.m, b := b } σ k (upd H4 L (.lst (ac ++ [y])))  ∧ Same k1 k ∧ Jv (i + 1) acc b) else ∃ k acc b, SR c { ς1 with m := (L, .lst acc) :: ς1.m, b := b } σ k H3 ∧ Same k1 k ∧ Jv (i + 1) acc b) ?_)
      · have q' := kg _ _ _ _ q
        have wi : L2.wipe (L2.wipe σ vs) vs = L2.wipe σ vs := wipe_idem
        rw [wi] at q'
        exact q'
      · intro bb k5 h5 ς5 S5 e5 ⟨qt, qf⟩
        have e15 : Same k1 k5 := (e2.trans g'.kk).trans (e4.trans e5)
        cases bb with
        | false =>
          obtain ⟨em, j⟩ := qf rfl
          obtain ⟨δ5, m5, b5⟩ := ς5
          have em : m5 = _ := em
          subst em
          exact iteF ⟨k5, acc, b5, lower S5 e15, e15, j⟩
        | true =>
          refine iteT (qt rfl σ4 k5 h5 S5 _ fun y k6 h6 d ς6 S6 e6 r6 ⟨l, em, j⟩ => ?_)
          obtain ⟨δ6, m6, b6⟩ := ς6
          have em : m6 = _ := em
          subst em
          have S7 := lower S6 (e15.trans e6)
          obtain ⟨n1, n2, vs', hv, rv⟩ := S7.m (L, .lst acc) List.mem_cons_self
          have n1 : k6 L = none := n1
          have hv : h6 L = some (.lst vs') := hv
          have rv : RepL c.K k6 vs' acc := rv
          have nW : ∀ a o, c.R.W a ∨ IsExt o → h6 a = some o → a ≠ L := fun a o wa q e => by
            rcases wa with wa | wa
            · exact (S7.w a wa).2 (by rw [e]; exact n0)
            · rw [e, hv] at q
              cases q
              exact wa
          refine ⟨vs', hv, by rw [rv.length]; exact l, k6, acc ++ [d], b6, ?_, e15.trans e6, j⟩
          have sk : Same k6 (upd h6 L (.lst (vs' ++ [y]))) := fun a o q => by
            have ne : a ≠ L := fun e => by rw [e, n1] at q; cases q
            rw [upd_ne ne]
            exact S7.kh _ _ q
          refine ⟨⟨S7.g.kk, sk, fun a o na q => ?_, fun a q => ?_, S7.g.dj, S7.g.kt⟩, c.R.st _ _ _ (fun a o wa q => by rw [upd_ne (nW a o wa q)]; exact q) S7.i, S7.w, S7.s, fun x hx => ?_, S7.nd, S7.len, S7.kb⟩
          · have ne : a ≠ L := fun e => by rw [e, n0] at q; cases q
            rw [upd_ne ne]
            exact S7.g.hh a o na q
          · by_cases e : a = L
            · rw [e, upd_same]; simp
            · rw [upd_ne e]; exact S7.g.hd a q
          · rcases List.mem_cons.mp hx with e | hx'
            · subst e
              exact ⟨n1, n2, vs' ++ [y], upd_same, rv.append (.cons r6 .nil)⟩
            · obtain ⟨a1, a2, a3⟩ := S7.m x (List.mem_cons_of_mem _ hx')
              have ne : x.1 ≠ L := nm x hx'
              refine ⟨a1, a2, ?_⟩
              obtain ⟨xo, xm⟩ := x
              cases xm with
              | lst ds =>
                obtain ⟨us, q, r⟩ := a3
                exact ⟨us, by rw [upd_ne ne]; exact q, r⟩
              | ins C dx ns ds =>
                obtain ⟨fs, q, n, r⟩ := a3
                exact ⟨fs, by rw [upd_ne ne]; exact q, n, r⟩
              | dct ks ds =>
                obtain ⟨kvs, q, n, r⟩ := a3
                exact ⟨kvs, by rw [upd_ne ne]; exact q, n, r⟩
    · rintro H ⟨k, acc, b, S2, e2, j2⟩
      obtain ⟨n1, n2, vs', hv, rv⟩ := S2.m (L, .lst acc) List.mem_cons_self
      have n1 : k L = none := n1
      have hv : H L = some (.lst vs') := hv
      have rv : RepL c.K k vs' acc := rv
      -- the list is known from now on
      have kk : Same k (upd k L (.lst vs')) := same_new n1
      have kh : Same (upd k L (.lst vs')) H := fun a o q => by
        by_cases e : a = L
        · rw [e, upd_same] at q
          rw [e, hv]
          exact q
        · rw [upd_ne e] at q
          exact S2.kh _ _ q
      refine z (.ref L) (upd k L (.lst vs')) H (.lst acc) { ς1 with b := b } ?_ ((e1.trans e2).trans kk) (.lst upd_same (rv.mono kk)) (jd acc b j2)
      refine ⟨⟨S2.g.kk.trans kk, kh, S2.g.hh, S2.g.hd, fun a q n => ?_, fun a ps q => ?_⟩, S2.i, S2.w, fun i d q => ?_, fun x hx => ?_, (List.nodup_cons.mp (by have := S2.nd; rwa [List.map_cons] at this)).2, S2.len, S2.kb.trans kk⟩
      · have ne : a ≠ L := fun e => n (by rw [e]; exact n0)
        rw [upd_ne ne]
        exact S2.g.dj a q n
      · by_cases e : a = L
        · rw [e, upd_same] at q; cases q
        · rw [upd_ne e] at q; exact S2.g.kt a ps q
      · obtain ⟨v, a, r⟩ := S2.s i d q
        exact ⟨v, a, r.mono kk⟩
      · obtain ⟨a1, a2, a3⟩ := S2.m x (List.mem_cons_of_mem _ hx)
        exact ⟨by rw [upd_ne (nm x hx)]; exact a1, a2, a3.step kk fun _ _ q => q⟩
/-- a list comprehension; the new list may be written -/
theorem we_lcN {wi : TI} {g : TG} {tt : TT} {te : TE} {vs : List Nat} (kg : KG g vs) (h : WI c wi ς fun ds ς1 => ∃ Jv : Nat → List D → Nat → Prop, Jv 0 [] ς1.b ∧
    (∀ i d acc b D, ds[i]? = some d → Jv i acc b → WG c g d { δ := wipeD ς1.δ vs, m := (D, .lst acc) :: ς1.m, b := b } fun ς2 => WT c tt ς2 fun x ς3 =>
      (x = true → WE c te ς3 fun e ς4 => acc.length < sizeLine ∧ ς4.m = (D, .lst acc) :: ς1.m ∧ Jv (i + 1) (acc ++ [e]) ς4.b) ∧ (x = false → ς3.m = (D, .lst acc) :: ς1.m ∧ Jv (i + 1) acc ς3.b)) ∧
    ∀ acc b, Jv ds.length acc b → ∀ L, (∀ x ∈ ς1.m, x.1 ≠ L) → Φ (.ref L) { ς1 with m := (L, .lst acc) :: ς1.m, b := b }) : WE c (tLc wi g tt te vs) ς Φ := fun σ k hh S Q z =>
  h σ k hh S _ fun J k1 h1 ds ς1 S1 e1 w ⟨Jv, j0, js, jd⟩ L nL => by
    have lower : ∀ {m : List (Addr × MO)} {δ : List (Option D)} {τ : L2.St} {b : Nat} {k2 h2 : Hp}, SR c ⟨δ, m, b⟩ τ k2 h2 → Same k1 k2 → SR c { ς1 with m := m, b := b } σ k2 h2 := fun {m δ τ b k2 h2} S2 e =>
      ⟨S2.g, S2.i, S2.w, fun i d q => by
        obtain ⟨v, a, r⟩ := S1.s i d q
        exact ⟨v, a, r.mono e⟩, S2.m, S2.nd, S1.len, S2.kb⟩
    have nk : k1 L = none := S1.kh.free nL
    have nm : ∀ x ∈ ς1.m, x.1 ≠ L := fun x hx e => (S1.m x hx).2.2.there (by rw [e]; exact nL)
    have n0 : c.h0 L = none := by
      cases y : c.h0 L with
      | none => rfl
      | some o => exact absurd nL (S1.g.hd L (by rw [y]; simp))
    refine lc_it w.walk (fun i h => ∃ k acc b, SR c { ς1 with m := (L, .lst acc) :: ς1.m, b := b } σ k h ∧ Same k1 k ∧ Jv i acc b) ⟨k1, [], ς1.b, ?_, Same.refl _, j0⟩ (fun i H _ ⟨k, acc, b, S, e, _⟩ => ⟨e.trans S.kh, _, _, k, S, e⟩) ?_ ?_
    · have g : Grow (fun _ => False) k1 h1 k1 (upd h1 L (.lst [])) := Grow.newU S1.kh nL
      have S2 := S1.grow g
      refine ⟨S2.g, S2.i, S2.w, S2.s, fun x hx => ?_, ?_, S2.len, S2.kb⟩
      · rcases List.mem_cons.mp hx with e | hx
        · subst e
          exact ⟨nk, .inl n0, [], upd_same, .nil⟩
        · exact S2.m x hx
      · rw [List.map_cons]
        refine List.nodup_cons.mpr ⟨fun hm => ?_, S1.nd⟩
        obtain ⟨x, hx, e⟩ := List.mem_map.mp hm
        exact nm x hx e
    · rintro i x H H' hi ⟨k, acc, b, S2, e2, j2⟩ y
      obtain ⟨k', g', r'⟩ := w.yields i H x H' ds[i] (by simp [hi]) y k e2 ⟨S2.kh, _, _, k, S2, Same.refl _⟩
      have S3 := (S2.grow g').wipe vs
      have q := js i ds[i] acc b L (by simp [hi]) j2 (L2.wipe σ vs) k' H' x S3 r' _ (fun σ4 k4 h4 ς4 S4 e4 q4 => q4 σ4 k4 h4 S4 (fun b H3 => if b = true then te σ4 H3 fun y H4 => ∃ ac, H4 L = some (.lst ac) ∧ ac.length < sizeLine ∧ (∃ k acc b, SR c { ς1 with m := (L, .lst acc) :: ς1.m, b := b } σ k (upd H4 L (.lst (ac ++ [y])))  ∧ Same k1 k ∧ Jv (i + 1) acc b) else ∃ k acc b, SR c { ς1 with m := (L, .lst acc) :: ς1.m, b := b } σ k H3 ∧ Same k1 k ∧ Jv (i + 1) acc b) ?_)
      · have q' := kg _ _ _ _ q
        have wi : L2.wipe (L2.wipe σ vs) vs = L2.wipe σ vs := wipe_idem
        rw [wi] at q'
        exact q'
      · intro bb k5 h5 ς5 S5 e5 ⟨qt, qf⟩
        have e15 : Same k1 k5 := (e2.trans g'.kk).trans (e4.trans e5)
        cases bb with
        | false =>
          obtain ⟨em, j⟩ := qf rfl
          obtain ⟨δ5, m5, b5⟩ := ς5
          have em : m5 = _ := em
          subst em
          exact iteF ⟨k5, acc, b5, lower S5 e15, e15, j⟩
        | true =>
          refine iteT (qt rfl σ4 k5 h5 S5 _ fun y k6 h6 d ς6 S6 e6 r6 ⟨l, em, j⟩ => ?_)
          obtain ⟨δ6, m6, b6⟩ := ς6
          have em : m6 = _ := em
          subst em
          have S7 := lower S6 (e15.trans e6)
          obtain ⟨n1, n2, vs', hv, rv⟩ := S7.m (L, .lst acc) List.mem_cons_self
          have n1 : k6 L = none := n1
          have hv : h6 L = some (.lst vs') := hv
          have rv : RepL c.K k6 vs' acc := rv
          have nW : ∀ a o, c.R.W a ∨ IsExt o → h6 a = some o → a ≠ L := fun a o wa q e => by
            rcases wa with wa | wa
            · exact (S7.w a wa).2 (by rw [e]; exact n0)
            · rw [e, hv] at q
              cases q
              exact wa
          refine ⟨vs', hv, by rw [rv.length]; exact l, k6, acc ++ [d], b6, ?_, e15.trans e6, j⟩
          have sk : Same k6 (upd h6 L (.lst (vs' ++ [y]))) := fun a o q => by
            have ne : a ≠ L := fun e => by rw [e, n1] at q; cases q
            rw [upd_ne ne]
            exact S7.kh _ _ q
          refine ⟨⟨S7.g.kk, sk, fun a o na q => ?_, fun a q => ?_, S7.g.dj, S7.g.kt⟩, c.R.st _ _ _ (fun a o wa q => by rw [upd_ne (nW a o wa q)]; exact q) S7.i, S7.w, S7.s, fun x hx => ?_, S7.nd, S7.len, S7.kb⟩
          · have ne : a ≠ L := fun e => by rw [e, n0] at q; cases q
            rw [upd_ne ne]
            exact S7.g.hh a o na q
          · by_cases e : a = L
            · rw [e, upd_same]; simp
            · rw [upd_ne e]; exact S7.g.hd a q
          · rcases List.mem_cons.mp hx with e | hx'
            · subst e
              exact ⟨n1, n2, vs' ++ [y], upd_same, rv.append (.cons r6 .nil)⟩
            · obtain ⟨a1, a2, a3⟩ := S7.m x (List.mem_cons_of_mem _ hx')
              have ne : x.1 ≠ L := nm x hx'
              refine ⟨a1, a2, ?_⟩
              obtain ⟨xo, xm⟩ := x
              cases xm with
              | lst ds =>
                obtain ⟨us, q, r⟩ := a3
                exact ⟨us, by rw [upd_ne ne]; exact q, r⟩
              | ins C dx ns ds =>
                obtain ⟨fs, q, n, r⟩ := a3
                exact ⟨fs, by rw [upd_ne ne]; exact q, n, r⟩
              | dct ks ds =>
                obtain ⟨kvs, q, n, r⟩ := a3
                exact ⟨kvs, by rw [upd_ne ne]; exact q, n, r⟩
    · rintro H ⟨k, acc, b, S2, e2, j2⟩
      exact z (.ref L) k H (.ref L) { ς1 with m := (L, .lst acc) :: ς1.m, b := b } S2 (e1.trans e2) (.ref L) (jd acc b j2 L nm)
end
end DL

set_option Elab.async false
set_option linter.all false
set_option maxRecDepth 100000
set_option maxHeartbeats 2000000
namespace DL
open PySem PySem.Spec PyProof.Rows L2

/-! ### data as the library's -/
mutual
def D.toPy : D → PyData
  | .non => .none
  | .bl b => .bool b
  | .int i => .int i
  | .str x => .str x
  | .lst l => .list (toPyL l)
  | .tup l => .tuple (toPyL l)
  | .dct _ _ => .dict []
  | .obj _ _ _ => .dict []
  | .ty _ => .dict []
  | .ref _ => .dict []
  | .exc _ _ _ _ _ => .dict []
def toPyL : List D → List PyData
  | [] => []
  | d :: ds => d.toPy :: toPyL ds
end
mutual
theorem Rep.dp {K : PySem.W.Frag} {k : Hp} : ∀ {d : D} {v : V}, Rep K k v d → d.toPy.canLay0 = true → Dp K k v d.toPy
  | .non, _, .non, _ => .non
  | .bl b, _, .bl _, _ => .bl b
  | .int i, _, .int _, _ => .int i
  | .str x, _, .str _, _ => .str x
  | .lst l, _, .lst h r, q => .lst (SqL.of h) (RepL.dp r q)
  | .tup l, _, .tup h r, q => .tup h (RepL.dp r q)
  | .dct _ _, _, _, q => by cases q
  | .obj _ _ _, _, _, q => by cases q
  | .ty _, _, _, q => by cases q
  | .ref _, _, _, q => by cases q
  | .exc _ _ _ _ _, _, _, q => by cases q
theorem RepL.dp {K : PySem.W.Frag} {k : Hp} : ∀ {ds : List D} {vs : List V}, RepL K k vs ds → PyData.canLayAll0 (toPyL ds) = true → DpAll K k vs (toPyL ds)
  | [], _, .nil, _ => .nil
  | d :: ds, _, .cons h r, q => by
    have q' : (d.toPy.canLay0 && PyData.canLayAll0 (toPyL ds)) = true := q
    obtain ⟨q1, q2⟩ := Bool.and_eq_true_iff.mp q'
    exact .cons (Rep.dp h q1) (RepL.dp r q2)
end
theorem SqL.up {K : PySem.W.Frag} {k h : Hp} {a : Addr} {xs : List V} (e : Same k h) (q : SqL K k a xs) : SqL K h a xs := e.seq q
mutual
theorem Dp.up {K : PySem.W.Frag} {k h : Hp} (e : Same k h) : ∀ {v : V} {d : PyData}, Dp K k v d → Dp K h v d
  | _, _, .non => .non
  | _, _, .bl b => .bl b
  | _, _, .int i => .int i
  | _, _, .str x => .str x
  | _, _, .lst q r => .lst (e.seq q) (DpAll.up e r)
  | _, _, .tup q r => .tup (Same.sqt e q) (DpAll.up e r)
theorem DpAll.up {K : PySem.W.Frag} {k h : Hp} (e : Same k h) : ∀ {vs : List V} {ds : List PyData}, DpAll K k vs ds → DpAll K h vs ds
  | _, _, .nil => .nil
  | _, _, .cons q r => .cons (Dp.up e q) (DpAll.up e r)
end

abbrev No : Addr → Prop := fun _ => False
section
variable {K : PySem.W.Frag} {Φ : D → Prop}
/-! ### operators -/
def rAddK (K : PySem.W.Frag) : R2 := fun x y H Q => rI0 (fun i j => .int (i + j)) x y H Q ∨ (∃ i j, x = .str i ∧ y = .str j ∧ i.length + j.length ≤ sizeLine ∧ Q (.str (i ++ j)) H) ∨ rCat x y H Q ∨ rCatA K x y H Q
theorem op_addK {X : Cx} : OpR X (binaryOp .Add) (rAddK X.K) := op_add.or (op_add_str.or (op_cat.or op_catA))
theorem rd_add_int {i j : Int} (q : Φ (.int (i + j))) : RD K (rAddK K) (.int i) (.int j) Φ := fun k h v1 v2 e r1 r2 Q z => by
  cases r1; cases r2
  exact .inl ⟨i, j, rfl, rfl, z _ k h _ (Grow.refl e) (.int _) q⟩
theorem rd_add_str {i j : Str} (l : i.length + j.length ≤ sizeLine) (q : Φ (.str (i ++ j))) : RD K (rAddK K) (.str i) (.str j) Φ := fun k h v1 v2 e r1 r2 Q z => by
  cases r1; cases r2
  exact .inr (.inl ⟨i, j, rfl, rfl, l, z _ k h _ (Grow.refl e) (.str _) q⟩)
theorem rd_add_lst {xs ys : List D} (l : xs.length + ys.length ≤ sizeLine) (q : Φ (.lst (xs ++ ys))) : RD K (rAddK K) (.lst xs) (.lst ys) Φ := fun k h v1 v2 e r1 r2 Q z => by
  cases r1 with
  | lst h1 r1 => cases r2 with
    | lst h2 r2 =>
      refine .inr (.inr (.inl ⟨_, _, _, _, rfl, rfl, e _ _ h1, e _ _ h2, by rw [r1.length, r2.length]; exact l, fun p n => ?_⟩))
      have g : ∀ {o}, NT o → Grow No k h (upd k p o) (upd h p o) := fun t => Grow.new e n t
      exact z _ _ _ _ (g (by nofun)) (.lst upd_same ((r1.append r2).mono (g (by nofun)).kk)) q
theorem rd_add_tup {xs ys : List D} (l : xs.length + ys.length ≤ sizeLine) (q : Φ (.tup (xs ++ ys))) : RD K (rAddK K) (.tup xs) (.tup ys) Φ := fun k h v1 v2 e r1 r2 Q z => by
  cases r1 with
  | tup h1 r1 => cases r2 with
    | tup h2 r2 =>
      refine .inr (.inr (.inr ⟨_, _, _, _, rfl, rfl, Same.sqt e h1, Same.sqt e h2, by rw [r1.length, r2.length]; exact l, fun e0 => ?_, fun _ e0 => ?_, fun _ _ p n => ?_⟩))
      · subst e0
        cases r1
        exact z _ k h _ (Grow.refl e) (.tup h2 r2) q
      · subst e0
        cases r2
        rw [List.append_nil] at q
        exact z _ k h _ (Grow.refl e) (.tup h1 r1) q
      · have g : ∀ {o}, NT o → Grow No k h (upd k p o) (upd h p o) := fun t => Grow.new e n t
        exact z _ _ _ _ (g (by nofun)) (.tup (.inl (.inl upd_same)) ((r1.append r2).mono (g (by nofun)).kk)) q
def rSubK : R2 := rI0 fun i j => .int (i - j)
theorem op_subK {X : Cx} : OpR X (binaryOp .Sub) rSubK := op_sub
theorem rd_sub {i j : Int} (q : Φ (.int (i - j))) : RD K rSubK (.int i) (.int j) Φ := fun k h v1 v2 e r1 r2 Q z => by
  cases r1; cases r2
  exact ⟨i, j, rfl, rfl, z _ k h _ (Grow.refl e) (.int _) q⟩
def rMulK : R2 := fun x y H Q => rI CMulW (fun i j => .int (i * j)) x y H Q ∨ rI CMul (fun i j => .int (i * j)) x y H Q ∨ rRep x y H Q
theorem op_mulK {X : Cx} : OpR X (binaryOp .Mult) rMulK := op_mulW.or (op_mul.or op_rep)
theorem rd_mul {i j : Int} (l : CMul i j) (q : Φ (.int (i * j))) : RD K rMulK (.int i) (.int j) Φ := fun k h v1 v2 e r1 r2 Q z => by
  cases r1; cases r2
  exact .inr (.inl ⟨i, j, rfl, rfl, l, z _ k h _ (Grow.refl e) (.int _) q⟩)
theorem rd_mulW {i j : Int} (l : CMulW i j) (q : Φ (.int (i * j))) : RD K rMulK (.int i) (.int j) Φ := fun k h v1 v2 e r1 r2 Q z => by
  cases r1; cases r2
  exact .inl ⟨i, j, rfl, rfl, l, z _ k h _ (Grow.refl e) (.int _) q⟩
theorem RepL.rep {k : Hp} {vs : List V} {ds : List D} (r : RepL K k vs ds) : ∀ n : Nat, RepL K k (List.replicate n vs).flatten (List.replicate n ds).flatten
  | 0 => .nil
  | n + 1 => by
    rw [List.replicate_succ, List.replicate_succ, List.flatten_cons, List.flatten_cons]
    exact r.append (RepL.rep r n)
theorem rd_rep {xs : List D} {n : Int} (l1 : -(2 ^ 63) ≤ n) (l2 : n < 2 ^ 63) (l3 : xs.length * n.toNat ≤ sizeLine) (q : Φ (.lst (List.replicate n.toNat xs).flatten)) : RD K rMulK (.lst xs) (.int n) Φ := fun k h v1 v2 e r1 r2 Q z => by
  cases r1 with
  | lst h1 r1 =>
    cases r2
    refine .inr (.inr ⟨_, _, _, rfl, rfl, e _ _ h1, l1, l2, by rw [r1.length]; exact l3, fun p n => ?_⟩)
    have g : ∀ {o}, NT o → Grow No k h (upd k p o) (upd h p o) := fun t => Grow.new e n t
    exact z _ _ _ _ (g (by nofun)) (.lst upd_same ((r1.rep _).mono (g (by nofun)).kk)) q
def rModK : R2 := rI (fun _ j => 0 < j) fun i j => .int (i % j)
theorem op_modK {X : Cx} : OpR X (binaryOp .Mod) rModK := op_mod
theorem rd_mod {i j : Int} (l : 0 < j) (q : Φ (.int (i % j))) : RD K rModK (.int i) (.int j) Φ := fun k h v1 v2 e r1 r2 Q z => by
  cases r1; cases r2
  exact ⟨i, j, rfl, rfl, l, z _ k h _ (Grow.refl e) (.int _) q⟩
def rDivK : R2 := rI CDivW fun i j => .int (i / j)
theorem op_divK {X : Cx} : OpR X (binaryOp .FloorDiv) rDivK := op_fdivW
theorem rd_div {i j : Int} (l : CDivW i j) (q : Φ (.int (i / j))) : RD K rDivK (.int i) (.int j) Φ := fun k h v1 v2 e r1 r2 Q z => by
  cases r1; cases r2
  exact ⟨i, j, rfl, rfl, l, z _ k h _ (Grow.refl e) (.int _) q⟩
def rPowK : R2 := rI CPow fun i j => .int (i ^ j.toNat)
theorem op_powK {X : Cx} : OpR X (binaryOp .Pow) rPowK := op_pow
theorem rd_pow {i j : Int} (l : CPow i j) (q : Φ (.int (i ^ j.toNat))) : RD K rPowK (.int i) (.int j) Φ := fun k h v1 v2 e r1 r2 Q z => by
  cases r1; cases r2
  exact ⟨i, j, rfl, rfl, l, z _ k h _ (Grow.refl e) (.int _) q⟩
def rNegK : V → Hp → VK → Prop := rU fun i => .int (-i)
theorem un_negK {X : Cx} : UnR X (unaryOp .USub) rNegK := un_neg
theorem ru_neg {i : Int} (q : Φ (.int (-i))) : RU K rNegK (.int i) Φ := fun k h v1 e r1 Q z => by
  cases r1
  exact ⟨i, rfl, z _ k h _ (Grow.refl e) (.int _) q⟩
/-! ### comparisons -/
def rLtK : R2 := rI0 fun i j => .bl (decide (i < j))
def rLeK : R2 := rI0 fun i j => .bl (decide (i ≤ j))
def rGtK : R2 := rI0 fun i j => .bl (decide (j < i))
def rGeK : R2 := rI0 fun i j => .bl (decide (j ≤ i))
theorem op_ltK {X : Cx} : OpR X (compareOp .Lt) rLtK := op_lt
theorem op_leK {X : Cx} : OpR X (compareOp .LtE) rLeK := op_le
theorem op_gtK {X : Cx} : OpR X (compareOp .Gt) rGtK := op_gt
theorem op_geK {X : Cx} : OpR X (compareOp .GtE) rGeK := op_ge
theorem rd_lt {i j : Int} (q : Φ (.bl (decide (i < j)))) : RD K rLtK (.int i) (.int j) Φ := fun k h v1 v2 e r1 r2 Q z => by
  cases r1; cases r2
  exact ⟨i, j, rfl, rfl, z _ k h _ (Grow.refl e) (.bl _) q⟩
theorem rd_le {i j : Int} (q : Φ (.bl (decide (i ≤ j)))) : RD K rLeK (.int i) (.int j) Φ := fun k h v1 v2 e r1 r2 Q z => by
  cases r1; cases r2
  exact ⟨i, j, rfl, rfl, z _ k h _ (Grow.refl e) (.bl _) q⟩
theorem rd_gt {i j : Int} (q : Φ (.bl (decide (j < i)))) : RD K rGtK (.int i) (.int j) Φ := fun k h v1 v2 e r1 r2 Q z => by
  cases r1; cases r2
  exact ⟨i, j, rfl, rfl, z _ k h _ (Grow.refl e) (.bl _) q⟩
theorem rd_ge {i j : Int} (q : Φ (.bl (decide (j ≤ i)))) : RD K rGeK (.int i) (.int j) Φ := fun k h v1 v2 e r1 r2 Q z => by
  cases r1; cases r2
  exact ⟨i, j, rfl, rfl, z _ k h _ (Grow.refl e) (.bl _) q⟩
def rEqDc : R2 := fun x y H Q => ∃ a b kvs, x = .ref a ∧ y = .ref b ∧ H a = some (.dK kvs) ∧ H b = some (.dK kvs) ∧ (kvs.map (·.1)).Nodup ∧ (∀ p ∈ kvs, flatB p.2 = true) ∧ Q (.bl true) H
def rEqK (K : PySem.W.Frag) : R2 := fun x y H Q => rEq x y H Q ∨ rEqD K x y H Q ∨ rEqDc x y H Q
def rNeK (K : PySem.W.Frag) : R2 := fun x y H Q => rNe x y H Q ∨ rNeD K x y H Q
theorem op_eqK {X : Cx} (hu : X.A.units + 64 < cLine) : OpR X (compareOp .Eq) (rEqK X.K) := op_eq.or (OpR.or (op_eqD hu) (op_eq_dict (by omega)))
theorem op_neK {X : Cx} (hu : X.A.units + 64 < cLine) : OpR X (compareOp .NotEq) (rNeK X.K) := op_ne.or (op_neD hu)
theorem decInt {i j : Int} : decide (V.int i = V.int j) = decide (i = j) := by
  by_cases h : i = j
  · subst h; simp
  · have n : ¬ V.int i = V.int j := fun z => h (V.int.inj z)
    rw [decide_eq_false h, decide_eq_false n]
theorem decStr {i j : Str} : decide (V.str i = V.str j) = decide (i = j) := by
  by_cases h : i = j
  · subst h; simp
  · have n : ¬ V.str i = V.str j := fun z => h (V.str.inj z)
    rw [decide_eq_false h, decide_eq_false n]
theorem decBl {i j : Bool} : decide (V.bl i = V.bl j) = decide (i = j) := by
  by_cases h : i = j
  · subst h; simp
  · have n : ¬ V.bl i = V.bl j := fun z => h (V.bl.inj z)
    rw [decide_eq_false h, decide_eq_false n]
theorem rd_eq_int {i j : Int} (q : Φ (.bl (decide (i = j)))) : RD K (rEqK K) (.int i) (.int j) Φ := fun k h v1 v2 e r1 r2 Q z => by
  cases r1; cases r2
  exact .inl ⟨rfl, z _ k h _ (Grow.refl e) (.bl _) (by rw [decInt]; exact q)⟩
theorem rd_ne_int {i j : Int} (q : Φ (.bl (!decide (i = j)))) : RD K (rNeK K) (.int i) (.int j) Φ := fun k h v1 v2 e r1 r2 Q z => by
  cases r1; cases r2
  exact .inl ⟨rfl, z _ k h _ (Grow.refl e) (.bl _) (by rw [decInt]; exact q)⟩
theorem rd_eq_str {i j : Str} (q : Φ (.bl (decide (i = j)))) : RD K (rEqK K) (.str i) (.str j) Φ := fun k h v1 v2 e r1 r2 Q z => by
  cases r1; cases r2
  exact .inl ⟨rfl, z _ k h _ (Grow.refl e) (.bl _) (by rw [decStr]; exact q)⟩
theorem rd_ne_str {i j : Str} (q : Φ (.bl (!decide (i = j)))) : RD K (rNeK K) (.str i) (.str j) Φ := fun k h v1 v2 e r1 r2 Q z => by
  cases r1; cases r2
  exact .inl ⟨rfl, z _ k h _ (Grow.refl e) (.bl _) (by rw [decStr]; exact q)⟩
theorem rd_eq_bl {i j : Bool} (q : Φ (.bl (decide (i = j)))) : RD K (rEqK K) (.bl i) (.bl j) Φ := fun k h v1 v2 e r1 r2 Q z => by
  cases r1; cases r2
  exact .inl ⟨rfl, z _ k h _ (Grow.refl e) (.bl _) (by rw [decBl]; exact q)⟩
theorem rd_ne_bl {i j : Bool} (q : Φ (.bl (!decide (i = j)))) : RD K (rNeK K) (.bl i) (.bl j) Φ := fun k h v1 v2 e r1 r2 Q z => by
  cases r1; cases r2
  exact .inl ⟨rfl, z _ k h _ (Grow.refl e) (.bl _) (by rw [decBl]; exact q)⟩
theorem rd_eq_py {d1 d2 : D} (h1 : SeqAt.shaped d1.toPy = true) (h2 : SeqAt.shaped d2.toPy = true) (q : Φ (.bl (PyData.eqv d1.toPy d2.toPy))) : RD K (rEqK K) d1 d2 Φ := fun k h v1 v2 e r1 r2 Q z =>
  .inr (.inl ⟨_, _, Dp.up e (r1.dp (SeqAt.canLay_of_shaped h1)), Dp.up e (r2.dp (SeqAt.canLay_of_shaped h2)), h1, h2, z _ k h _ (Grow.refl e) (.bl _) q⟩)
theorem rd_ne_py {d1 d2 : D} (h1 : SeqAt.shaped d1.toPy = true) (h2 : SeqAt.shaped d2.toPy = true) (q : Φ (.bl (!PyData.eqv d1.toPy d2.toPy))) : RD K (rNeK K) d1 d2 Φ := fun k h v1 v2 e r1 r2 Q z =>
  .inr ⟨_, _, Dp.up e (r1.dp (SeqAt.canLay_of_shaped h1)), Dp.up e (r2.dp (SeqAt.canLay_of_shaped h2)), h1, h2, z _ k h _ (Grow.refl e) (.bl _) q⟩
/-- is (not) None -/
def isNon : D → Bool
  | .non => true
  | _ => false
def rIsK : R2 := fun x y H Q => (y = .non ∧ Q (.bl (decide (x = .non))) H) ∨ rIsB x y H Q
def rIsnotK : R2 := fun x y H Q => y = .non ∧ Q (.bl (!decide (x = .non))) H
theorem op_isK {X : Cx} : OpR X (compareOp .Is) rIsK := op_isN.or op_isBl
theorem op_isnotK {X : Cx} : OpR X (compareOp .IsNot) rIsnotK := op_notN
theorem Rep.isNon {k : Hp} {v : V} {d : D} (r : Rep K k v d) : decide (v = .non) = DL.isNon d := by cases r <;> first | rfl | simp [DL.isNon]
theorem rd_is {d : D} (q : Φ (.bl (isNon d))) : RD K rIsK d .non Φ := fun k h v1 v2 e r1 r2 Q z => by
  cases r2
  exact .inl ⟨rfl, z _ k h _ (Grow.refl e) (.bl _) (by rw [r1.isNon]; exact q)⟩
theorem rd_is_bl {a b : Bool} (q : Φ (.bl (decide (a = b)))) : RD K rIsK (.bl a) (.bl b) Φ := fun k h v1 v2 e r1 r2 Q z => by
  cases r1; cases r2
  exact .inr ⟨a, b, rfl, rfl, z _ k h _ (Grow.refl e) (.bl _) q⟩
theorem rd_isnot {d : D} (q : Φ (.bl (!isNon d))) : RD K rIsnotK d .non Φ := fun k h v1 v2 e r1 r2 Q z => by
  cases r2
  exact ⟨rfl, z _ k h _ (Grow.refl e) (.bl _) (by rw [r1.isNon]; exact q)⟩
/-- x in items -/
def flatD : D → Bool
  | .non | .bl _ | .int _ | .str _ => true
  | _ => false
theorem Rep.flat {k : Hp} {v : V} {d : D} (r : Rep K k v d) : flatV v = flatD d := by cases r <;> rfl
theorem RepL.flat {k : Hp} : ∀ {vs : List V} {ds : List D}, RepL K k vs ds → vs.all flatV = ds.all flatD
  | _, _, .nil => rfl
  | _, _, .cons h r => by rw [List.all_cons, List.all_cons, h.flat, RepL.flat r]
def eqF (d e : D) : Bool := PyData.eqv d.toPy e.toPy
theorem Rep.eqF {k : Hp} {v w : V} {d e : D} (r : Rep K k v d) (s : Rep K k w e) (fd : flatD d = true) (fe : flatD e = true) : eqV v w = DL.eqF d e := by
  cases r <;> cases s <;> first | rfl | (cases fd) | (cases fe) | (simp [DL.eqF, D.toPy, eqV, PyData.eqv])
theorem RepL.inV {k : Hp} {x : V} {d : D} (rx : Rep K k x d) (fx : flatD d = true) : ∀ {vs : List V} {ds : List D}, RepL K k vs ds → ds.all flatD = true → L2.inV x vs = ds.any fun y => DL.eqF y d
  | _, _, .nil, _ => rfl
  | _, _, .cons h r, f => by
    rw [List.all_cons] at f
    obtain ⟨f1, f2⟩ := Bool.and_eq_true_iff.mp f
    have ih := RepL.inV rx fx r f2
    unfold L2.inV at ih ⊢
    rw [List.any_cons, List.any_cons, ih, h.eqF rx f1 fx]
def rInK (K : PySem.W.Frag) : R2 := fun x y H Q => rIn K false x y H Q ∨ ∃ (c : Nat) (z : Str), x = .str ⟨#[c]⟩ ∧ y = .str z ∧ Q (.bl (decide (c ∈ z.cps.toList))) H
def rNinK (K : PySem.W.Frag) : R2 := fun x y H Q => rIn K true x y H Q ∨ ∃ (c : Nat) (z : Str), x = .str ⟨#[c]⟩ ∧ y = .str z ∧ Q (.bl (!decide (c ∈ z.cps.toList))) H
theorem op_inK {X : Cx} : OpR X (compareOp .In) (rInK X.K) := op_in_seq.or op_in_sign
theorem op_ninK {X : Cx} : OpR X (compareOp .NotIn) (rNinK X.K) := op_notIn_seq.or op_notIn_sign
def seqOf : D → Option (List D)
  | .lst l => some l
  | .tup l => some l
  | _ => none
theorem Rep.seq {k h : Hp} {v : V} {d : D} {l : List D} (e : Same k h) (r : Rep K k v d) (q : seqOf d = some l) : ∃ p xs, v = .ref p ∧ (SqL K h p xs ∨ SqT K h p xs) ∧ RepL K k xs l := by
  cases r <;> cases q
  · rename_i a vs hk hr
    exact ⟨_, _, rfl, .inl (SqL.of (e _ _ hk)), hr⟩
  · rename_i a vs hk hr
    exact ⟨_, _, rfl, .inr (Same.sqt e hk), hr⟩
theorem rd_in {x y : D} {l : List D} (hy : seqOf y = some l) (fx : flatD x = true) (fl : l.all flatD = true) (q : Φ (.bl (l.any fun y => eqF y x))) : RD K (rInK K) x y Φ := fun k h v1 v2 e r1 r2 Q z => by
  obtain ⟨p, xs, rfl, s, r⟩ := r2.seq e hy
  refine .inl ⟨p, xs, rfl, s, by rw [r1.flat]; exact fx, by rw [r.flat]; exact fl, ?_⟩
  rw [if_neg Bool.false_ne_true, r.inV r1 fx fl]
  exact z _ k h _ (Grow.refl e) (.bl _) q
theorem rd_nin {x y : D} {l : List D} (hy : seqOf y = some l) (fx : flatD x = true) (fl : l.all flatD = true) (q : Φ (.bl (!l.any fun y => eqF y x))) : RD K (rNinK K) x y Φ := fun k h v1 v2 e r1 r2 Q z => by
  obtain ⟨p, xs, rfl, s, r⟩ := r2.seq e hy
  refine .inl ⟨p, xs, rfl, s, by rw [r1.flat]; exact fx, by rw [r.flat]; exact fl, ?_⟩
  rw [if_pos rfl, r.inV r1 fx fl]
  exact z _ k h _ (Grow.refl e) (.bl _) q
/-! ### subscripts -/
def atD (l : List D) (i : Int) : Option D := atI l i
def rIxK (K : PySem.W.Frag) : R2 := rIx K
theorem ix_K {X : Cx} : IxR X (rIxK X.K) := ix_seq
theorem RepL.atI {k : Hp} {vs : List V} {ds : List D} {i : Int} {d : D} (r : RepL K k vs ds) (q : L2.atI ds i = some d) : ∃ v, L2.atI vs i = some v ∧ Rep K k v d := by
  unfold L2.atI at q ⊢
  rw [r.length]
  cases e : ixN ds.length i with
  | none => rw [e] at q; cases q
  | some j =>
    rw [e] at q
    exact r.get q
theorem rd_ix {x : D} {l : List D} {i : Int} {d : D} (hx : seqOf x = some l) (ha : atI l i = some d) (q : Φ d) : RD K (rIxK K) x (.int i) Φ := fun k h v1 v2 e r1 r2 Q z => by
  obtain ⟨p, xs, rfl, s, r⟩ := r1.seq e hx
  cases r2
  obtain ⟨v, hv, rv⟩ := r.atI ha
  rcases s with s | s
  · exact .inl ⟨p, xs, i, v, rfl, rfl, s, hv, z v k h d (Grow.refl e) rv q⟩
  · exact .inr (.inl ⟨p, xs, i, v, rfl, rfl, s, hv, z v k h d (Grow.refl e) rv q⟩)
theorem rd_ixS {x : Str} {i : Int} {c : Nat} (l : x.length ≤ sizeLine) (ha : atI x.cps.toList i = some c) (q : Φ (.str ⟨#[c]⟩)) : RD K (rIxK K) (.str x) (.int i) Φ := fun k h v1 v2 e r1 r2 Q z => by
  cases r1; cases r2
  exact .inr (.inr ⟨x, i, c, rfl, rfl, l, ha, z _ k h _ (Grow.refl e) (.str _) q⟩)
/-! ### calls of built-ins -/
def rLenK (K : PySem.W.Frag) : List V → Hp → VK → Prop := fun xs H Q => (∃ p ys, xs = [.ref p] ∧ (SqL K H p ys ∨ SqT K H p ys) ∧ Q (.int ys.length) H) ∨ (∃ z, xs = [.str z] ∧ z.length ≤ sizeLine ∧ Q (.int z.length) H) ∨
  ∃ a kvs, xs = [V.ref a] ∧ H a = some (.dK kvs) ∧ Q (.int kvs.length) H
theorem CallR.or {X : Cx} {f : Value} {r r' : List V → Hp → VK → Prop} (h : CallR X f r) (h' : CallR X f r') : CallR X f fun xs H Q => r xs H Q ∨ r' xs H Q := fun pins s σ H xs us Q I rr q => by
  rcases q with q | q
  · exact h pins s σ H xs us Q I rr q
  · exact h' pins s σ H xs us Q I rr q
theorem call_lenK {X : Cx} : CallR X (.builtin "len") (rLenK X.K) := CallR.or call_len_seq (CallR.or call_len_str call_lenD)
theorem rc_len {x : D} {l : List D} (hx : seqOf x = some l) (q : Φ (.int l.length)) : RC K (rLenK K) [x] Φ := fun k h vs e r Q z => by
  cases r with
  | cons r1 r2 =>
    cases r2
    obtain ⟨p, xs, rfl, s, r⟩ := r1.seq e hx
    exact .inl ⟨p, xs, rfl, s, z _ k h _ (Grow.refl e) (by rw [r.length]; exact .int _) q⟩
theorem rc_lenS {x : Str} (l : x.length ≤ sizeLine) (q : Φ (.int x.length)) : RC K (rLenK K) [.str x] Φ := fun k h vs e r Q z => by
  cases r with
  | cons r1 r2 =>
    cases r2; cases r1
    exact .inr (.inl ⟨x, rfl, l, z _ k h _ (Grow.refl e) (.int _) q⟩)
def rIntK : List V → Hp → VK → Prop := fun xs H Q => (∃ i, xs = [.int i] ∧ Q (.int i) H) ∨ ∃ k, xs = [.bl k] ∧ Q (.int (if k then 1 else 0)) H
theorem call_intK {X : Cx} : CallR X (.type "int") rIntK := call_int1
theorem rc_int {i : Int} (q : Φ (.int i)) : RC K rIntK [.int i] Φ := fun k h vs e r Q z => by
  cases r with
  | cons r1 r2 =>
    cases r2; cases r1
    exact .inl ⟨i, rfl, z _ k h _ (Grow.refl e) (.int _) q⟩
def rAbsK : List V → Hp → VK → Prop := fun xs H Q => ∃ i, xs = [.int i] ∧ Q (.int (if i < 0 then -i else i)) H
theorem call_absK {X : Cx} : CallR X (.builtin "abs") rAbsK := call_abs
theorem rc_abs {i : Int} (q : Φ (.int (if i < 0 then -i else i))) : RC K rAbsK [.int i] Φ := fun k h vs e r Q z => by
  cases r with
  | cons r1 r2 =>
    cases r2; cases r1
    exact ⟨i, rfl, z _ k h _ (Grow.refl e) (.int _) q⟩
def rListK (K : PySem.W.Frag) : List V → Hp → VK → Prop := fun xs H Q => ∃ p ys, xs = [.ref p] ∧ (SqL K H p ys ∨ SqT K H p ys) ∧ ∀ l, H l = none → Q (.ref l) (upd H l (.lst ys))
theorem call_listK {X : Cx} : CallR X (.type "list") (rListK X.K) := call_list_of
theorem rc_list {x : D} {l : List D} (hx : seqOf x = some l) (q : Φ (.lst l)) : RC K (rListK K) [x] Φ := fun k h vs e r Q z => by
  cases r with
  | cons r1 r2 =>
    cases r2
    obtain ⟨p, xs, rfl, s, r⟩ := r1.seq e hx
    refine ⟨p, xs, rfl, s, fun a n => ?_⟩
    have g : ∀ {o}, NT o → Grow No k h (upd k a o) (upd h a o) := fun t => Grow.new e n t
    exact z _ _ _ _ (g (by nofun)) (.lst upd_same (r.mono (g (by nofun)).kk)) q
def rTupK (K : PySem.W.Frag) : List V → Hp → VK → Prop := fun xs H Q => ∃ p ys, xs = [.ref p] ∧ ((SqL K H p ys ∧ ∀ l, H l = none → Q (.ref l) (upd H l (.tup ys))) ∨ (SqT K H p ys ∧ Q (.ref p) H))
theorem call_tupK {X : Cx} : CallR X (.type "tuple") (rTupK X.K) := call_tuple_of
theorem rc_tup {x : D} {l : List D} (hx : seqOf x = some l) (q : Φ (.tup l)) : RC K (rTupK K) [x] Φ := fun k h vs e r Q z => by
  cases r with
  | cons r1 r2 =>
    cases r2
    cases r1 with
    | lst h1 r1 =>
      cases hx
      refine ⟨_, _, rfl, .inl ⟨SqL.of (e _ _ h1), fun a n => ?_⟩⟩
      have g : ∀ {o}, NT o → Grow No k h (upd k a o) (upd h a o) := fun t => Grow.new e n t
      exact z _ _ _ _ (g (by nofun)) (.tup (.inl (.inl upd_same)) (r1.mono (g (by nofun)).kk)) q
    | tup h1 r1 =>
      cases hx
      exact ⟨_, _, rfl, .inr ⟨Same.sqt e h1, z _ k h _ (Grow.refl e) (.tup h1 r1) q⟩⟩
    | _ => cases hx
theorem RepL.bls {k : Hp} : ∀ {vs : List V} {bs : List Bool}, RepL K k vs (bs.map D.bl) → vs = bs.map V.bl
  | _, [], .nil => rfl
  | _, b :: bs, .cons (.bl _) r => by rw [List.map_cons, RepL.bls r]
theorem rc_any {bs : List Bool} (q : Φ (.bl (bs.any id))) : RC K (rAny K) [.lst (bs.map D.bl)] Φ := fun k h vs e r Q z => by
  cases r with
  | cons r1 r2 =>
    cases r2
    cases r1 with
    | lst h1 r1 =>
      have ev := r1.bls
      subst ev
      exact ⟨_, bs, rfl, SqL.of (e _ _ h1), z _ k h _ (Grow.refl e) (.bl _) q⟩
theorem rc_all {bs : List Bool} (q : Φ (.bl (bs.all id))) : RC K (rAll K) [.lst (bs.map D.bl)] Φ := fun k h vs e r Q z => by
  cases r with
  | cons r1 r2 =>
    cases r2
    cases r1 with
    | lst h1 r1 =>
      have ev := r1.bls
      subst ev
      exact ⟨_, bs, rfl, SqL.of (e _ _ h1), z _ k h _ (Grow.refl e) (.bl _) q⟩
theorem rc_sum {ns : List Int} (q : Φ (.int ns.sum)) : RC K (rSum K) [.lst (ns.map D.int)] Φ := fun k h vs e r Q z => by
  cases r with
  | cons r1 r2 =>
    cases r2
    cases r1 with
    | lst h1 r1 =>
      have ev := r1.ints
      subst ev
      exact ⟨_, ns, rfl, SqL.of (e _ _ h1), z _ k h _ (Grow.refl e) (.int _) q⟩
end
end DL

set_option Elab.async false
set_option linter.all false
set_option maxRecDepth 100000
set_option maxHeartbeats 2000000
namespace DL
open PySem PySem.Spec PyProof.Rows L2

/-! ### what a def promises, by data -/
/-- resource, arguments, count, what is wanted of the value, of an exception (its class, its fields) -/
abbrev FT := Res → List D → Nat → (D → Nat → Prop) → (Addr → List Str → List D → Nat → Prop) → Prop
/-- an exception's own dict (none where it has no fields) -/
def XAt (h : Hp) (d : Option Addr) (ns : List Str) (ws : List V) : Prop := match ns with
  | [] => d = none
  | _ => ∃ dd, d = some dd ∧ h dd = some (.xd (ns.zip ws))
/-- an exception's wish, said by data -/
def XW (K : PySem.W.Frag) (R : Res) (k H : Hp) (E : XK) (C : Addr) (ns : List Str) (fs : List D) (b : Nat) : Prop :=
  ∀ dd ws k' h', Grow R.W k H k' h' → R.I b h' → XAt k' dd ns ws → RepL K k' ws fs → E (.ref C) dd h'
def SpG (K : PySem.W.Frag) (n : Nat) (f : FT) : Sp := fun vs H Q E => vs.length = n ∧ ∃ (R : Res) (k : Hp) (ds : List D) (b : Nat), RepL K k vs ds ∧ Same k H ∧ R.I b H ∧ (∀ a, R.W a → k a = none ∧ H a ≠ none) ∧
  f R ds b (fun d b' => ∀ v k' h', Grow R.W k H k' h' → R.I b' h' → Rep K k' v d → Q v h') (XW K R k H E)
/-- slots at the start -/
def startD (N : List Str) (ds : List D) : List (Option D) := ds.map some ++ List.replicate (N.length - ds.length) none
theorem start_rep {K : PySem.W.Frag} {k : Hp} {N : List Str} {vs : List V} {ds : List D} (r : RepL K k vs ds) {i : Nat} {d : D} (h : (startD N ds)[i]? = some (some d)) : ∃ v, (L2.start N vs)[i]? = some (some v) ∧ Rep K k v d := by
  unfold startD at h
  by_cases hi : i < ds.length
  · rw [List.getElem?_append_left (by simpa using hi), List.getElem?_map] at h
    cases e : ds[i]? with
    | none => rw [e] at h; cases h
    | some x =>
      rw [e] at h
      cases h
      obtain ⟨v, e2, r2⟩ := r.get e
      refine ⟨v, ?_, r2⟩
      unfold L2.start
      have hv : i < vs.length := by rw [r.length]; exact hi
      rw [List.getElem?_append_left (by simpa using hv), List.getElem?_map, e2]
      rfl
  · rw [List.getElem?_append_right (by simpa using hi), List.getElem?_replicate] at h
    split at h <;> cases h
theorem start_len {N : List Str} {vs : List V} {ds : List D} (e : vs.length = ds.length) : (startD N ds).length = (L2.start N vs).length := by
  unfold startD L2.start
  simp [e]
section
variable {P : Program} {w : World} {K : PySem.W.Frag} {mg : Str → Option Value} {base : Heap}
theorem fnG {x qual : Str} {st : Stmt} {f : Addr} {fd : FuncData} {N ps : List Str} {k n : Nat} {F : FT} (Fn : Fun K x qual st f fd) (S : FnScope N ps (defScope st)) (hn : ps.length = n)
    (hbody : ∀ (cdv : Value) (A : Around) (outer : List Env) (s : Shared) (H : Hp) (E : XK), Room k (A.deeper (envOfC qual (defScope st) s.heap.objs.size f cdv)) →
      ∃ t, PSs (cxOf (L2.CX P w) P w K mg base N qual (defScope st) f cdv A outer s H E) (defBody st) t ∧
        ∀ (R : Res) (k0 : Hp) (ds : List D) (b : Nat) (q : D → Nat → Prop) (x : Addr → List Str → List D → Nat → Prop), F R ds b q x → ds.length = n →
          (∀ C ns fs b' dd ws k' h', x C ns fs b' → Grow R.W k0 H k' h' → R.I b' h' → XAt k' dd ns ws → RepL K k' ws fs → E (.ref C) dd h') →
          WS ⟨K, R, k0, H, true, fun _ => none⟩ t { δ := startD N ds, b := b } { nx := fun ς => q .non ς.b, rt := fun d ς => q d ς.b }) :
    FnOk P w K mg base (L2.CX P w) (k + 1) f fd ps (SpG K n F) := by
  refine Fn.okX S (fun vs H Q E h => by rw [h.1, hn]) fun cdv A outer s H vs Q E hr h => ?_
  obtain ⟨t, ht, hw⟩ := hbody cdv A outer s H E hr
  obtain ⟨hl, R, k0, ds, b, rl, e, hi, hW, hf⟩ := h
  refine ⟨t, ht, ?_⟩
  refine hw R k0 ds b _ _ hf (by rw [← rl.length, hl]) (fun C ns fs b' dd ws k' h' z g i1 i2 i3 => z dd ws k' h' g i1 i2 i3) (L2.start N vs) k0 H ⟨Grow.refl e, hi, hW, fun i d q => start_rep rl q, fun p hp => absurd hp (by simp), List.nodup_nil, start_len rl.length, fun _ _ z => by cases z⟩ _ ?_
  exact ⟨fun σ' k' h' ς' S' _ q => q .non k' h' S'.g S'.i .non, fun _ _ _ _ _ _ q => q.elim, fun _ _ _ _ _ _ q => q.elim, fun v σ' k' h' d ς' S' _ r q => q v k' h' S'.g S'.i r⟩
end
section
variable {c : Cn} {ς : Sta} {Φ : D → Sta → Prop} {Ψ : Psi}
/-- back from a call that was given R -/
theorem SR.after {σ : L2.St} {k h k' h' : Hp} {b' : Nat} (S : SR c ς σ k h) (g : Grow c.R.W k h k' h') (i : c.R.I b' h') (hf : c.fr = true) : SR c { ς with b := b' } σ k' h' := by
  refine ⟨S.g.trans g, i, S.w, fun j d q => ?_, fun p hp => ?_, S.nd, S.len, S.kb.trans g.kk⟩
  · obtain ⟨v, e, r⟩ := S.s j d q
    exact ⟨v, e, r.mono g.kk⟩
  · obtain ⟨a1, a2, a3⟩ := S.m p hp
    have a2' : c.h0 p.1 = none := by
      rcases a2 with z | ⟨z, _⟩
      · exact z
      · rw [hf] at z; cases z
    have nW : ¬ c.R.W p.1 := fun z => (S.w _ z).2 a2'
    refine ⟨g.dj _ a1 a3.there, a2, ?_⟩
    obtain ⟨o, mo⟩ := p
    cases mo with
    | lst ds => obtain ⟨vs, q, r⟩ := a3; exact ⟨vs, g.hh _ _ nW q, r.mono g.kk⟩
    | ins C dx ns ds => obtain ⟨fs, q, n, r⟩ := a3; exact ⟨fs, g.hh _ _ nW q, n, r.mono g.kk⟩
    | dct ks ds => obtain ⟨kvs, q, n, r⟩ := a3; exact ⟨kvs, g.hh _ _ nW q, n, r.mono g.kk⟩
end
end DL

set_option Elab.async false
set_option linter.all false
set_option maxRecDepth 100000
set_option maxHeartbeats 2000000
namespace DL
open PySem PySem.Spec PyProof.Rows L2

/-- a promise: what is asked; what may come; what may be raised -/
structure Spc where
  pre : Res → List D → Nat → Prop
  post : Res → List D → Nat → D → Nat → Prop
  exc : Res → List D → Nat → Addr → List Str → List D → Nat → Prop := fun _ _ _ _ _ _ _ => False
def Spc.ft (s : Spc) : FT := fun R ds b q x => s.pre R ds b ∧ (∀ d b', s.post R ds b d b' → q d b') ∧ ∀ C ns fs b', s.exc R ds b C ns fs b' → x C ns fs b'
abbrev SpS (K : PySem.W.Frag) (n : Nat) (s : Spc) : Sp := SpG K n s.ft
/-- an outcome -/
inductive Out where
  | ret (d : D)
  | exc (C : Addr) (ns : List Str) (fs : List D)
/-- a def that hangs on its arguments alone -/
def spcF (g : List D → Option Out) : Spc where
  pre := fun _ ds _ => ∃ o, g ds = some o
  post := fun _ ds b d b' => g ds = some (.ret d) ∧ b' = b
  exc := fun _ ds b C ns fs b' => g ds = some (.exc C ns fs) ∧ b' = b
section
variable {P : Program} {w : World} {K : PySem.W.Frag} {mg : Str → Option Value} {base : Heap}
theorem fnS {x qual : Str} {st : Stmt} {f : Addr} {fd : FuncData} {N ps : List Str} {k n : Nat} {s : Spc} (Fn : Fun K x qual st f fd) (S : FnScope N ps (defScope st)) (hn : ps.length = n)
    (hbody : ∀ (cdv : Value) (A : Around) (outer : List Env) (sh : Shared) (H : Hp) (E : XK), Room k (A.deeper (envOfC qual (defScope st) sh.heap.objs.size f cdv)) →
      ∃ t, PSs (cxOf (L2.CX P w) P w K mg base N qual (defScope st) f cdv A outer sh H E) (defBody st) t ∧
        ∀ (R : Res) (k0 : Hp) (ds : List D) (b : Nat), s.pre R ds b → ds.length = n →
          (∀ C ns fs b' dd ws k' h', s.exc R ds b C ns fs b' → Grow R.W k0 H k' h' → R.I b' h' → XAt k' dd ns ws → RepL K k' ws fs → E (.ref C) dd h') →
          WS ⟨K, R, k0, H, true, fun _ => none⟩ t { δ := startD N ds, b := b } { nx := fun ς => s.post R ds b .non ς.b, rt := fun d ς => s.post R ds b d ς.b }) :
    FnOk P w K mg base (L2.CX P w) (k + 1) f fd ps (SpS K n s) := by
  refine fnG Fn S hn fun cdv A outer sh H E hr => ?_
  obtain ⟨t, ht, hw⟩ := hbody cdv A outer sh H E hr
  refine ⟨t, ht, fun R k0 ds b q x hf hl hE => ?_⟩
  obtain ⟨h1, h2, h3⟩ := hf
  exact ws_mono (hw R k0 ds b h1 hl fun C ns fs b' dd ws k' h' z => hE C ns fs b' dd ws k' h' (h3 C ns fs b' z)) (fun ς z => h2 _ _ z) (fun d b z => h2 _ _ z) (fun _ z => z) fun _ z => z
end
section
variable {c : Cn} {ς : Sta} {Φ : D → Sta → Prop} {Ψ : Psi}
abbrev XT := Addr → List Str → List D → Sta → Prop
/-- what is raised is taken -/
def XOk (c : Cn) (E : XK) (X : XT) : Prop := ∀ C ns fs dd ws σ k' h' ς', SR c ς' σ k' h' → XAt k' dd ns ws → RepL c.K k' ws fs → X C ns fs ς' → E (.ref C) dd h'
theorem xok0 {E : XK} : XOk c E fun _ _ _ _ => False := fun _ _ _ _ _ _ _ _ _ _ _ _ z => z.elim
/-- a call that is given no resource -/
theorem we_call {n : Nat} {s : Spc} {E : XK} {ta : TA} {X : XT} (hE : XOk c E X)
    (h : WL c ta ς fun ds ς1 => ds.length = n ∧ s.pre Res.none ds 0 ∧ (∀ d b, s.post Res.none ds 0 d b → Φ d ς1) ∧ ∀ C ns fs b, s.exc Res.none ds 0 C ns fs b → X C ns fs ς1) : WE c (tCall (SpS c.K n s) [] E ta) ς Φ := fun σ k hh S Q z =>
  h σ k hh S _ fun vs k1 h1 ds ς1 S1 e1 r1 ⟨l, p1, p2, p3⟩ => by
    rw [List.append_nil]
    refine ⟨by rw [r1.length, l], Res.none, k1, ds, 0, r1, S1.kh, trivial, fun a z => z.elim, p1, fun d b q v k' h' g _ r => ?_, fun C ns fs b q dd ws k' h' g _ e r => ?_⟩
    · exact z v k' h' d ς1 (S1.grow g) (e1.trans g.kk) r (p2 d b q)
    · exact hE C ns fs dd ws σ k' h' ς1 (S1.grow g) e r (p3 C ns fs b q)
/-- a call that is given the def's own resource -/
theorem we_callS {n : Nat} {s : Spc} {E : XK} {ta : TA} {X : XT} (hf : c.fr = true) (hE : XOk c E X)
    (h : WL c ta ς fun ds ς1 => ds.length = n ∧ s.pre c.R ds ς1.b ∧ (∀ d b, s.post c.R ds ς1.b d b → Φ d { ς1 with b := b }) ∧ ∀ C ns fs b, s.exc c.R ds ς1.b C ns fs b → X C ns fs { ς1 with b := b }) : WE c (tCall (SpS c.K n s) [] E ta) ς Φ := fun σ k hh S Q z =>
  h σ k hh S _ fun vs k1 h1 ds ς1 S1 e1 r1 ⟨l, p1, p2, p3⟩ => by
    rw [List.append_nil]
    refine ⟨by rw [r1.length, l], c.R, k1, ds, ς1.b, r1, S1.kh, S1.i, fun a z => ⟨S1.g.dj a (S1.w a z).1 (S1.w a z).2, S1.g.hd a (S1.w a z).2⟩, p1, fun d b q v k' h' g i r => ?_, fun C ns fs b q dd ws k' h' g i e r => ?_⟩
    · exact z v k' h' d _ (S1.after g i hf) (e1.trans g.kk) r (p2 d b q)
    · exact hE C ns fs dd ws σ k' h' _ (S1.after g i hf) e r (p3 C ns fs b q)
/-! ### instances -/
def lookD (f : Str) : List Str → List D → Option D
  | n :: ns, d :: ds => if f = n then some d else lookD f ns ds
  | _, _ => none
theorem look_rep {K : PySem.W.Frag} {k : Hp} {f : Str} : ∀ {fs : List (Str × V)} {ns : List Str} {ds : List D} {d : D}, fs.map (·.1) = ns → RepL K k (fs.map (·.2)) ds → lookD f ns ds = some d → ∃ v, fs.lookup f = some v ∧ Rep K k v d
  | [], ns, ds, d, e, r, h => by
    subst e
    cases r
    cases h
  | (n, v) :: fs, ns, ds, d, e, r, h => by
    subst e
    cases r with
    | cons r1 r2 =>
      rename_i d1 ds1
      have h : (if f = n then some d1 else lookD f (fs.map (·.1)) ds1) = some d := h
      by_cases q : f = n
      · rw [if_pos q] at h
        cases h
        subst q
        exact ⟨v, by simp [List.lookup], r1⟩
      · rw [if_neg q] at h
        obtain ⟨v', e2, r3⟩ := look_rep rfl r2 h
        have qq : (f == n) = false := by simpa using q
        exact ⟨v', by simp [List.lookup, qq, e2], r3⟩
theorem look_none {f : Str} : ∀ {fs : List (Str × V)}, f ∉ fs.map (·.1) → fs.lookup f = none
  | [], _ => rfl
  | (n, v) :: fs, h => by
    rw [List.map_cons, List.mem_cons, not_or] at h
    have qq : (f == n) = false := by simpa using h.1
    simp only [List.lookup, qq]
    exact look_none h.2
theorem we_fld {te : TE} {f : Str} (h : WE c te ς fun d ς1 => ∃ C ns ds d', d = .obj C ns ds ∧ Cls c.K C ∧ NoAttr c.K C f ∧ lookD f ns ds = some d' ∧ Φ d' ς1) : WE c (tFld c.K te f) ς Φ := fun σ k hh S Q z =>
  h σ k hh S _ fun v k1 h1 d ς1 S1 e1 r1 ⟨C, ns, ds, d', ed, hc, hn, hl, q⟩ => by
    subst ed
    cases r1 with
    | obj ek en er =>
      obtain ⟨v', e2, r2⟩ := look_rep en er hl
      exact ⟨_, _, _, _, v', rfl, S1.kh _ _ ek, hc, hn, e2, z v' k1 h1 d' ς1 S1 e1 r2 q⟩
/-- a method's call, given no resource -/
theorem we_meth {C : Addr} {m : Str} {n : Nat} {s : Spc} {E : XK} {te : TE} {ta : TA} {X : XT} (hE : XOk c E X)
    (h : WE c te ς fun d ς0 => ∃ ns fs, d = .obj C ns fs ∧ m ∉ ns ∧ WL c ta ς0 fun ds ς1 => (d :: ds).length = n ∧ s.pre Res.none (d :: ds) 0 ∧ (∀ e b, s.post Res.none (d :: ds) 0 e b → Φ e ς1) ∧ ∀ C ns fs b, s.exc Res.none (d :: ds) 0 C ns fs b → X C ns fs ς1) :
    WE c (tMeth C m (SpS c.K n s) [] E te ta) ς Φ := fun σ k hh S Q z =>
  h σ k hh S _ fun v k0 h0 d ς0 S0 e0 r0 ⟨ns, fs, ed, nm, q0⟩ => by
    subst ed
    have r0' := r0
    cases r0 with
    | obj ek en er =>
      refine ⟨_, _, _, rfl, S0.kh _ _ ek, look_none (by rw [en]; exact nm), ?_⟩
      refine q0 σ k0 h0 S0 _ fun vs k1 h1 ds ς1 S1 e1 r1 ⟨l, p1, p2, p3⟩ => ?_
      rw [List.append_nil]
      have rr : RepL c.K k1 (_ :: vs) (_ :: ds) := .cons (r0'.mono e1) r1
      refine ⟨by rw [rr.length, l], Res.none, k1, _ :: ds, 0, rr, S1.kh, trivial, fun a z => z.elim, p1, fun d b q v k' h' g _ r => ?_, fun C ns fs b q dd ws k' h' g _ e r => ?_⟩
      · exact z v k' h' d ς1 (S1.grow g) ((e0.trans e1).trans g.kk) r (p2 d b q)
      · exact hE C ns fs dd ws σ k' h' ς1 (S1.grow g) e r (p3 C ns fs b q)
end
/-! ### an instance made: __init__ -/
/-- __init__'s promise: the arguments behind self; the fields -/
structure SpcI where
  pre : List D → Prop
  post : List D → List Str → List D → Prop
  exc : List D → Addr → List Str → List D → Prop := fun _ _ _ _ => False
def initR (x : Addr) : Res := ⟨fun a => a = x, fun _ _ => True, fun _ _ _ _ h => h⟩
def SpI (K : PySem.W.Frag) (n : Nat) (C : Addr) (s : SpcI) : Sp := fun vs H Q E => vs.length = n ∧ ∃ (x dx : Addr) (us : List V) (k : Hp) (ds : List D), vs = .ref x :: us ∧ H x = some (.ins C dx []) ∧ k x = none ∧ RepL K k us ds ∧ Same k H ∧ s.pre ds ∧
  (∀ ns fs, s.post ds ns fs → ∀ k' h' ws, Grow (initR x).W k H k' h' → h' x = some (.ins C dx ws) → ws.map (·.1) = ns → RepL K k' (ws.map (·.2)) fs → Q .non h') ∧
  ∀ C' ns fs, s.exc ds C' ns fs → XW K (initR x) k H E C' ns fs 0
section
variable {P : Program} {w : World} {K : PySem.W.Frag} {mg : Str → Option Value} {base : Heap}
theorem fnI {x qual : Str} {st : Stmt} {f C : Addr} {fd : FuncData} {N ps : List Str} {k n : Nat} {s : SpcI} (Fn : Fun K x qual st f fd) (S : FnScope N ps (defScope st)) (hn : ps.length = n)
    (hbody : ∀ (cdv : Value) (A : Around) (outer : List Env) (sh : Shared) (H : Hp) (E : XK), Room k (A.deeper (envOfC qual (defScope st) sh.heap.objs.size f cdv)) →
      ∃ t, PSs (cxOf (L2.CX P w) P w K mg base N qual (defScope st) f cdv A outer sh H E) (defBody st) t ∧
        ∀ (o dx : Addr) (k0 : Hp) (ds : List D), s.pre ds → (D.ref o :: ds).length = n →
          (∀ C' ns fs b' dd ws k' h', s.exc ds C' ns fs → Grow (initR o).W k0 H k' h' → (initR o).I b' h' → XAt k' dd ns ws → RepL K k' ws fs → E (.ref C') dd h') →
          WS ⟨K, initR o, k0, H, false, fun _ => none⟩ t { δ := startD N (.ref o :: ds), m := [(o, .ins C dx [] [])], b := 0 }
            { nx := fun ς => ∃ ns fs, ς.m = [(o, .ins C dx ns fs)] ∧ s.post ds ns fs, rt := fun _ _ => False }) :
    FnOk P w K mg base (L2.CX P w) (k + 1) f fd ps (SpI K n C s) := by
  refine Fn.okX S (fun vs H Q E h => by rw [h.1, hn]) fun cdv A outer sh H vs Q E hr h => ?_
  obtain ⟨t, ht, hw⟩ := hbody cdv A outer sh H E hr
  obtain ⟨hl, o, dx, us, k0, ds, rfl, ho, ko, rl, e, hp, hq, hx⟩ := h
  refine ⟨t, ht, ?_⟩
  have rr : RepL K k0 (.ref o :: us) (.ref o :: ds) := .cons (.ref o) rl
  refine hw o dx k0 ds hp (by rw [← rr.length, hl]) (fun C' ns fs b' dd ws k' h' z g i1 i2 i3 => hx C' ns fs z dd ws k' h' g i1 i2 i3) (L2.start N _) k0 H ?_ _ ?_
  · refine ⟨Grow.refl e, trivial, fun a z => ?_, fun i d q => start_rep rr q, fun p hp => ?_, ?_, start_len rr.length, fun _ _ z => by cases z⟩
    · have z : a = o := z
      subst z
      exact ⟨ko, by show H _ ≠ none; rw [ho]; simp⟩
    · have z := List.mem_singleton.mp hp
      subst z
      exact ⟨ko, .inr ⟨rfl, rfl⟩, [], ho, rfl, .nil⟩
    · show List.Nodup [o]
      simp
  · refine ⟨fun σ' k' h' ς' S' _ q => ?_, fun _ _ _ _ _ _ q => q.elim, fun _ _ _ _ _ _ q => q.elim, fun v σ' k' h' d ς' S' _ r q => q.elim⟩
    obtain ⟨ns, fs, em, hpost⟩ := q
    obtain ⟨_, _, ws, a1, a2, a3⟩ := S'.m (o, .ins C dx ns fs) (by rw [em]; simp)
    exact hq ns fs hpost k' h' ws S'.g a1 a2 a3
end
section
variable {c : Cn} {ς : Sta} {Φ : D → Sta → Prop} {Ψ : Psi}
theorem we_make {C : Addr} {n : Nat} {s : SpcI} {E : XK} {ta : TA} {X : XT} (hE : XOk c E X)
    (h : WL c ta ς fun ds ς1 => ds.length + 1 = n ∧ s.pre ds ∧ (∀ ns fs, s.post ds ns fs → Φ (.obj C ns fs) ς1) ∧ ∀ C' ns fs, s.exc ds C' ns fs → X C' ns fs ς1) : WE c (tMake C (SpI c.K n C s) [] E ta) ς Φ := fun σ k hh S Q z =>
  h σ k hh S _ fun vs k1 h1 ds ς1 S1 e1 r1 ⟨l, p1, p2, p3⟩ x dx nx ndx nex => by
    rw [List.append_nil]
    have kx : k1 x = none := S1.kh.free nx
    have s1 : Same k1 (upd (upd h1 dx (.own x)) x (.ins C dx [])) := S1.kh.trans ((same_new ndx).trans (same_new (by rw [upd_ne (fun e => nex e.symm)]; exact nx)))
    have back : ∀ {k' h' : Hp}, Grow (initR x).W k1 (upd (upd h1 dx (.own x)) x (.ins C dx [])) k' h' → Grow No k1 h1 k' h' := fun {k' h'} g => by
      refine ⟨g.kk, g.kh, fun a o _ q => ?_, fun a q => ?_, fun a q n => g.dj a q ?_, g.kt⟩
      · have na : a ≠ x := ne_of_none q nx
        exact g.hh a o na (by rw [upd_ne na, upd_ne (ne_of_none q ndx)]; exact q)
      · refine g.hd a ?_
        have na : a ≠ x := fun e => q (by rw [e]; exact nx)
        have nd : a ≠ dx := fun e => q (by rw [e]; exact ndx)
        rw [upd_ne na, upd_ne nd]
        exact q
      · have na : a ≠ x := fun e => n (by rw [e]; exact nx)
        have nd : a ≠ dx := fun e => n (by rw [e]; exact ndx)
        rw [upd_ne na, upd_ne nd]
        exact n
    refine ⟨by rw [List.length_cons, r1.length, l], x, dx, vs, k1, ds, rfl, upd_same, kx, r1, s1, p1, fun ns fs hp k' h' ws g ex en er => ⟨rfl, ?_⟩, fun C' ns fs hx dd ws k' h' g _ e r => ?_⟩
    · have g1 := back g
      have kx' : k' x = none := g.dj x kx (by rw [upd_same]; simp)
      have kk : Same k' (upd k' x (.ins C dx ws)) := same_new kx'
      have g2 : Grow No k1 h1 (upd k' x (.ins C dx ws)) h' := by
        refine ⟨g1.kk.trans kk, fun a o q => ?_, g1.hh, g1.hd, fun a q n => ?_, fun a ps q => ?_⟩
        · by_cases ea : a = x
          · rw [ea, upd_same] at q
            rw [ea, ex]
            exact q
          · rw [upd_ne ea] at q
            exact g1.kh _ _ q
        · have na : a ≠ x := fun e => n (by rw [e]; exact nx)
          rw [upd_ne na]
          exact g1.dj a q n
        · by_cases ea : a = x
          · rw [ea, upd_same] at q; cases q
          · rw [upd_ne ea] at q; exact g1.kt a ps q
      exact z (.ref x) _ h' _ ς1 (S1.grow g2) (e1.trans g2.kk) (.obj upd_same en (er.mono kk)) (p2 ns fs hp)
    · exact hE C' ns fs dd ws σ k' h' ς1 (S1.grow (back g)) e r (p3 C' ns fs hx)
theorem nd_ix {α : Type} : ∀ {l : List α}, l.Nodup → ∀ {i j : Nat} {x : α}, l[i]? = some x → l[j]? = some x → i = j
  | [], _, _, _, _, h, _ => by simp at h
  | y :: l, hn, 0, 0, _, _, _ => rfl
  | y :: l, hn, 0, j + 1, x, h, g => by
    have e : y = x := by simpa using h
    have m : x ∈ l := List.mem_of_getElem? (by simpa using g)
    exact absurd (e ▸ m) (List.nodup_cons.mp hn).1
  | y :: l, hn, i + 1, 0, x, h, g => by
    have e : y = x := by simpa using g
    have m : x ∈ l := List.mem_of_getElem? (by simpa using h)
    exact absurd (e ▸ m) (List.nodup_cons.mp hn).1
  | y :: l, hn, i + 1, j + 1, x, h, g => by
    rw [nd_ix (List.nodup_cons.mp hn).2 (i := i) (j := j) (x := x) (by simpa using h) (by simpa using g)]
/-- mutable objects by their place -/
theorem SR.at {σ : L2.St} {k h : Hp} {j : Nat} {o : Addr} {mo : MO} (S : SR c ς σ k h) (e : ς.m[j]? = some (o, mo)) : k o = none ∧ (c.h0 o = none ∨ (c.fr = false ∧ c.R.W o)) ∧ MoR c.K k h o mo := S.m (o, mo) (List.mem_of_getElem? e)
theorem SR.put {σ : L2.St} {k h : Hp} {j : Nat} {o : Addr} {mo mo' : MO} {ho : HO} (S : SR c ς σ k h) (e : ς.m[j]? = some (o, mo)) (hI : ∀ b h h', c.fr = false → c.R.I b h → c.R.I b h') (r : MoR c.K k (upd h o ho) o mo') :
    SR c { ς with m := ς.m.set j (o, mo') } σ k (upd h o ho) := by
  obtain ⟨a1, a2, a3⟩ := S.at e
  obtain ⟨hj, hje⟩ := List.getElem?_eq_some_iff.mp e
  have kh : Same k (upd h o ho) := fun a u q => by
    have ne : a ≠ o := fun z => by rw [z, a1] at q; cases q
    rw [upd_ne ne]
    exact S.kh _ _ q
  refine ⟨⟨S.g.kk, kh, fun a u na q => ?_, fun a q => ?_, S.g.dj, S.g.kt⟩, ?_, S.w, S.s, fun p hp => ?_, ?_, S.len, S.kb⟩
  · have ne : a ≠ o := fun z => by
      rcases a2 with y | ⟨_, y⟩
      · rw [z, y] at q; cases q
      · exact na (by rw [z]; exact y)
    rw [upd_ne ne]
    exact S.g.hh a u na q
  · by_cases ea : a = o
    · rw [ea, upd_same]; simp
    · rw [upd_ne ea]; exact S.g.hd a q
  · rcases a2 with y | ⟨y, _⟩
    · exact c.R.st _ _ _ (fun a u wa q => by
        have ne : a ≠ o := fun z => by
          rcases wa with wa | wa
          · exact (S.w a wa).2 (by rw [z]; exact y)
          · subst z
            cases mo with
            | lst ds => obtain ⟨vs, q2, r⟩ := a3; rw [q2] at q; cases q; exact wa
            | ins C dx ns ds => obtain ⟨fs, q2, r⟩ := a3; rw [q2] at q; cases q; exact wa
            | dct ks ds => obtain ⟨kvs, q2, r⟩ := a3; rw [q2] at q; cases q; exact wa
        rw [upd_ne ne]
        exact q) S.i
    · exact hI _ _ _ y S.i
  · have hp : p ∈ ς.m.set j (o, mo') := hp
    obtain ⟨i, hi, ei⟩ := List.mem_iff_getElem.mp hp
    rw [List.getElem_set] at ei
    by_cases eij : j = i
    · rw [if_pos eij] at ei
      subst ei
      exact ⟨a1, a2, r⟩
    · rw [if_neg eij] at ei
      have hi' : i < ς.m.length := by rw [List.length_set] at hi; exact hi
      have hpm : p ∈ ς.m := by rw [← ei]; exact List.getElem_mem _
      obtain ⟨b1, b2, b3⟩ := S.m p hpm
      have ne : p.1 ≠ o := fun z => eij (nd_ix S.nd (x := o) (by rw [List.getElem?_map, e]; rfl) (by rw [List.getElem?_map, List.getElem?_eq_getElem hi', ei]; simp [z]))
      refine ⟨b1, b2, ?_⟩
      obtain ⟨po, pm⟩ := p
      cases pm with
      | lst ds => obtain ⟨vs, q, r⟩ := b3; exact ⟨vs, by rw [upd_ne ne]; exact q, r⟩
      | ins C dx ns ds => obtain ⟨fs, q, n, r⟩ := b3; exact ⟨fs, by rw [upd_ne ne]; exact q, n, r⟩
      | dct ks ds => obtain ⟨kvs, q, n, r⟩ := b3; exact ⟨kvs, by rw [upd_ne ne]; exact q, n, r⟩
  · have em : (ς.m.set j (o, mo')).map (·.1) = ς.m.map (·.1) := by
      rw [List.map_set]
      refine List.ext_getElem? fun i => ?_
      by_cases eij : j = i
      · subst eij
        rw [List.getElem?_set_self (by rw [List.length_map]; exact hj), List.getElem?_map, e]
        rfl
      · rw [List.getElem?_set_ne eij]
    show ((ς.m.set j (o, mo')).map (·.1)).Nodup
    rw [em]
    exact S.nd
end
end DL

set_option Elab.async false
set_option linter.all false
set_option maxRecDepth 100000
set_option maxHeartbeats 2000000
namespace DL
open PySem PySem.Spec PyProof.Rows L2

section
variable {c : Cn} {ς : Sta} {Φ : D → Sta → Prop} {Ψ : Psi}
theorem er_map {α β : Type} (f : α → β) : ∀ (l : List α) (j : Nat), (l.eraseIdx j).map f = (l.map f).eraseIdx j
  | [], _ => by simp
  | _ :: _, 0 => rfl
  | x :: l, j + 1 => by
    show f x :: (l.eraseIdx j).map f = f x :: (l.map f).eraseIdx j
    rw [er_map f l j]
/-! ### mutable lists -/
/-- xs.append(e) -/
theorem ws_append {j : Nat} {o : Addr} {ds : List D} {to te : TE} (hI : ∀ b h h', c.fr = false → c.R.I b h → c.R.I b h' := by first | exact (fun _ _ _ z => nomatch z) | exact (fun _ _ _ _ z => z))
    (h : WE c to ς fun d ς1 => d = .ref o ∧ (∃ ds, ς1.m[j]? = some (o, .lst ds)) ∧ WE c te ς1 fun e ς2 => ς2.m[j]? = some (o, .lst ds) ∧ ds.length < sizeLine ∧ Ψ.nx { ς2 with m := ς2.m.set j (o, .lst (ds ++ [e])) }) :
    WS c (tDrop (tBM c.K "list" rAppend to (tCons te tNil))) ς Ψ := fun σ k hh S E z =>
  h σ k hh S _ fun v k1 h1 d ς1 S1 e1 r1 ⟨ed, ⟨ds0, ej0⟩, q⟩ => by
    subst ed
    cases r1
    obtain ⟨_, _, vs0, hv0, _⟩ := S1.at ej0
    refine ⟨.inl ⟨rfl, vs0, SqL.of hv0⟩, q σ k1 h1 S1 _ fun y k2 h2 e ς2 S2 e2 r2 ⟨ej, l, q2⟩ => ?_⟩
    obtain ⟨a1, a2, vs, hv, rv⟩ := S2.at ej
    refine ⟨o, vs, y, rfl, rfl, hv, by rw [rv.length]; exact l, ?_⟩
    exact z.nx σ k2 _ _ (S2.put (mo' := .lst (ds ++ [e])) ej hI ⟨vs ++ [y], upd_same, rv.append (.cons r2 .nil)⟩) (e1.trans e2) q2
/-- xs.pop(i) -/
theorem we_pop {j i : Nat} {o : Addr} {ds : List D} {d : D} {to te : TE} (hI : ∀ b h h', c.fr = false → c.R.I b h → c.R.I b h' := by first | exact (fun _ _ _ z => nomatch z) | exact (fun _ _ _ _ z => z))
    (h : WE c to ς fun x ς1 => x = .ref o ∧ (∃ ds, ς1.m[j]? = some (o, .lst ds)) ∧ WE c te ς1 fun e ς2 => e = .int (i : Int) ∧ i < 2 ^ 63 ∧ ς2.m[j]? = some (o, .lst ds) ∧ ds[i]? = some d ∧ Φ d { ς2 with m := ς2.m.set j (o, .lst (ds.eraseIdx i)) }) :
    WE c (tBM c.K "list" rPopAt to (tCons te tNil)) ς Φ := fun σ k hh S Q z =>
  h σ k hh S _ fun v k1 h1 x ς1 S1 e1 r1 ⟨ed, ⟨ds0, ej0⟩, q⟩ => by
    subst ed
    cases r1
    obtain ⟨_, _, vs0, hv0, _⟩ := S1.at ej0
    refine ⟨.inl ⟨rfl, vs0, SqL.of hv0⟩, q σ k1 h1 S1 _ fun y k2 h2 e ς2 S2 e2 r2 ⟨ee, l, ej, ed, q2⟩ => ?_⟩
    subst ee
    cases r2
    obtain ⟨a1, a2, vs, hv, rv⟩ := S2.at ej
    obtain ⟨u, hu, ru⟩ := rv.get ed
    have hi : i < vs.length := (List.getElem?_eq_some_iff.mp hu).1
    refine ⟨o, vs, (i : Int), i, u, rfl, rfl, hv, by omega, by omega, (ixN_seq (by unfold ixN; rw [if_pos (by omega), if_pos (by omega)]; simp)).1, hu, ?_⟩
    exact z u k2 _ d _ (S2.put (mo' := .lst (ds.eraseIdx i)) ej hI ⟨vs.eraseIdx i, upd_same, rv.eraseIdx i⟩) (e1.trans e2) ru q2
/-- a target xs[i] -/
theorem wg_sub {j i : Nat} {o : Addr} {ds : List D} {d : D} {to ti : TE} {Φ : Sta → Prop} (hI : ∀ b h h', c.fr = false → c.R.I b h → c.R.I b h' := by first | exact (fun _ _ _ z => nomatch z) | exact (fun _ _ _ _ z => z))
    (h : WE c to ς fun x ς1 => x = .ref o ∧ WE c ti ς1 fun e ς2 => ∃ n, e = .int n ∧ ixN ds.length n = some i ∧ ς2.m[j]? = some (o, .lst ds) ∧ Φ { ς2 with m := ς2.m.set j (o, .lst (ds.set i d)) }) :
    WG c (gSub to ti rSetL) d ς Φ := fun σ k hh v S r Q z =>
  h σ k hh S _ fun x k1 h1 dx ς1 S1 e1 r1 ⟨ed, q⟩ => by
    subst ed
    cases r1
    refine q σ k1 h1 S1 _ fun y k2 h2 e ς2 S2 e2 r2 ⟨n, ee, ei, ej, q2⟩ => ?_
    subst ee
    cases r2
    obtain ⟨a1, a2, vs, hv, rv⟩ := S2.at ej
    refine ⟨o, vs, n, i, rfl, rfl, hv, by rw [rv.length]; exact ei, ?_⟩
    exact z σ k2 _ _ (S2.put (mo' := .lst (ds.set i d)) ej hI ⟨vs.set i v, upd_same, RepL.set (r.mono (e1.trans e2)) i rv⟩) (e1.trans e2) q2
/-- an item of a mutable list -/
theorem we_ixM {j : Nat} {o : Addr} {ds : List D} {d : D} {to ti : TE} (h : WE c to ς fun x ς1 => x = .ref o ∧ WE c ti ς1 fun e ς2 => ∃ n, e = .int n ∧ ς2.m[j]? = some (o, .lst ds) ∧ atI ds n = some d ∧ Φ d ς2) :
    WE c (tOp (rIxK c.K) to ti) ς Φ := fun σ k hh S Q z =>
  h σ k hh S _ fun x k1 h1 dx ς1 S1 e1 r1 ⟨ed, q⟩ => by
    subst ed
    cases r1
    refine q σ k1 h1 S1 _ fun y k2 h2 e ς2 S2 e2 r2 ⟨n, ee, ej, ea, q2⟩ => ?_
    subst ee
    cases r2
    obtain ⟨a1, a2, vs, hv, rv⟩ := S2.at ej
    obtain ⟨u, hu, ru⟩ := rv.atI ea
    exact .inl ⟨o, vs, n, u, rfl, rfl, SqL.of hv, hu, z u k2 h2 d ς2 S2 (e1.trans e2) ru q2⟩
/-- len of a mutable list -/
theorem we_lenM {j : Nat} {o : Addr} {ds : List D} {to : TE} (h : WE c to ς fun x ς1 => x = .ref o ∧ ς1.m[j]? = some (o, .lst ds) ∧ Φ (.int ds.length) ς1) :
    WE c (tCB (rLenK c.K) (tCons to tNil)) ς Φ := fun σ k hh S Q z =>
  h σ k hh S _ fun x k1 h1 dx ς1 S1 e1 r1 ⟨ed, ej, q⟩ => by
    subst ed
    cases r1
    obtain ⟨a1, a2, vs, hv, rv⟩ := S1.at ej
    exact .inl ⟨o, vs, rfl, .inl (SqL.of hv), z _ k1 h1 _ ς1 S1 e1 (by rw [rv.length]; exact .int _) q⟩
/-- a mutable list against data -/
theorem we_neM {j : Nat} {o : Addr} {ds : List D} {ta tb : TE} (h : WE c ta ς fun x ς1 => x = .ref o ∧ WE c tb ς1 fun e ς2 => ς2.m[j]? = some (o, .lst ds) ∧ SeqAt.shaped (D.lst ds).toPy = true ∧ SeqAt.shaped e.toPy = true ∧ Φ (.bl (!PyData.eqv (D.lst ds).toPy e.toPy)) ς2) :
    WE c (tOp (rNeK c.K) ta tb) ς Φ := fun σ k hh S Q z =>
  h σ k hh S _ fun x k1 h1 dx ς1 S1 e1 r1 ⟨ed, q⟩ => by
    subst ed
    cases r1
    refine q σ k1 h1 S1 _ fun y k2 h2 e ς2 S2 e2 r2 ⟨ej, s1, s2, q2⟩ => ?_
    obtain ⟨a1, a2, vs, hv, rv⟩ := S2.at ej
    have dl : Dp c.K h2 (.ref o) (D.lst ds).toPy := .lst (SqL.of hv) (DpAll.up S2.kh (rv.dp (SeqAt.canLay_of_shaped s1)))
    exact .inr ⟨_, _, dl, Dp.up S2.kh (r2.dp (SeqAt.canLay_of_shaped s2)), s1, s2, z _ k2 h2 _ ς2 S2 (e1.trans e2) (.bl _) q2⟩
/-- a mutable list is known from now on -/
theorem SR.freeze {σ : L2.St} {k h : Hp} {i j : Nat} {o : Addr} {ds : List D} (S : SR c ς σ k h) (e : ς.m[j]? = some (o, .lst ds)) (hi : ς.δ[i]? = some (some (.ref o))) (hf : c.fr = true) :
    ∃ k', SR c { ς with δ := ς.δ.set i (some (.lst ds)), m := ς.m.eraseIdx j } σ k' h ∧ Same k k' := by
  obtain ⟨a1, a2, vs, hv, rv⟩ := S.at e
  have a2 : c.h0 o = none := by
    rcases a2 with z | ⟨z, _⟩
    · exact z
    · rw [hf] at z; cases z
  have kk : Same k (upd k o (.lst vs)) := same_new a1
  obtain ⟨hj, hje⟩ := List.getElem?_eq_some_iff.mp e
  refine ⟨upd k o (.lst vs), ⟨⟨S.g.kk.trans kk, fun a u q => ?_, S.g.hh, S.g.hd, fun a q n => ?_, fun a ps q => ?_⟩, S.i, S.w, fun i' d q => ?_, fun p hp => ?_, ?_, ?_, S.kb.trans kk⟩, kk⟩
  · by_cases ea : a = o
    · rw [ea, upd_same] at q
      rw [ea, hv]
      exact q
    · rw [upd_ne ea] at q
      exact S.kh _ _ q
  · have ne : a ≠ o := fun z => n (by rw [z]; exact a2)
    rw [upd_ne ne]
    exact S.g.dj a q n
  · by_cases e : a = o
    · rw [e, upd_same] at q; cases q
    · rw [upd_ne e] at q; exact S.g.kt a ps q
  · have q : (ς.δ.set i (some (.lst ds)))[i']? = some (some d) := q
    by_cases eii : i = i'
    · subst eii
      have hl : i < ς.δ.length := (List.getElem?_eq_some_iff.mp hi).1
      rw [List.getElem?_set_self hl] at q
      cases q
      obtain ⟨v, h1, h2⟩ := S.s i _ hi
      cases h2
      exact ⟨_, h1, .lst upd_same (rv.mono kk)⟩
    · rw [List.getElem?_set_ne eii] at q
      obtain ⟨v, h1, h2⟩ := S.s i' d q
      exact ⟨v, h1, h2.mono kk⟩
  · have hp : p ∈ ς.m.eraseIdx j := hp
    have hpm := List.mem_of_mem_eraseIdx hp
    obtain ⟨b1, b2, b3⟩ := S.m p hpm
    have ne : p.1 ≠ o := by
      intro z
      rw [List.mem_eraseIdx_iff_getElem?] at hp
      obtain ⟨i2, n2, e2⟩ := hp
      exact n2 (nd_ix S.nd (x := o) (by rw [List.getElem?_map, e2]; simp [z]) (by rw [List.getElem?_map, e]; rfl))
    exact ⟨by rw [upd_ne ne]; exact b1, b2, b3.step kk fun _ _ q => q⟩
  · have : (ς.m.eraseIdx j).map (·.1) = (ς.m.map (·.1)).eraseIdx j := er_map _ _ _
    show ((ς.m.eraseIdx j).map (·.1)).Nodup
    rw [this]
    exact S.nd.sublist (List.eraseIdx_sublist _ _)
  · show (ς.δ.set i _).length = _
    rw [List.length_set]
    exact S.len
theorem ws_freeze {i j : Nat} {o : Addr} {ds : List D} {t : TS} (hf : c.fr = true) (e : ς.m[j]? = some (o, .lst ds)) (hi : ς.δ[i]? = some (some (.ref o))) (h : WS c t { ς with δ := ς.δ.set i (some (.lst ds)), m := ς.m.eraseIdx j } Ψ) : WS c t ς Ψ := fun σ k hh S E z => by
  obtain ⟨k', S', e'⟩ := S.freeze e hi hf
  exact h σ k' hh S' E (z.later e')
/-! ### attributes stored -/
def putN (f : Str) : List Str → List Str
  | [] => [f]
  | n :: ns => if n = f then n :: ns else n :: putN f ns
def putL (f : Str) (d : D) : List Str → List D → List D
  | [], _ => [d]
  | n :: ns, x :: xs => if n = f then d :: xs else x :: putL f d ns xs
  | _ :: _, [] => []
theorem put_names (f : Str) (v : V) : ∀ fs : List (Str × V), (putF f v fs).map (·.1) = putN f (fs.map (·.1))
  | [] => rfl
  | (n, w) :: fs => by
    show (putF f v ((n, w) :: fs)).map (·.1) = (if n = f then n :: fs.map (·.1) else n :: putN f (fs.map (·.1)))
    have e : putF f v ((n, w) :: fs) = if n = f then (n, v) :: fs else (n, w) :: putF f v fs := by
      first | rfl | (unfold putF; split <;> simp_all)
    rw [e]
    by_cases h : n = f
    · rw [if_pos h, if_pos h]; rfl
    · rw [if_neg h, if_neg h, List.map_cons, put_names f v fs]
theorem put_rep {K : PySem.W.Frag} {k : Hp} (f : Str) {v : V} {d : D} (r : Rep K k v d) : ∀ {fs : List (Str × V)} {ds : List D}, RepL K k (fs.map (·.2)) ds → RepL K k ((putF f v fs).map (·.2)) (putL f d (fs.map (·.1)) ds)
  | [], _, .nil => .cons r .nil
  | (n, w) :: fs, _, .cons r1 r2 => by
    have e : putF f v ((n, w) :: fs) = if n = f then (n, v) :: fs else (n, w) :: putF f v fs := by
      first | rfl | (unfold putF; split <;> simp_all)
    rw [e]
    show RepL K k _ (if n = f then _ :: _ else _ :: _)
    by_cases h : n = f
    · rw [if_pos h, if_pos h]; exact .cons r r2
    · rw [if_neg h, if_neg h]; exact .cons r1 (put_rep f r r2)
theorem ws_fld {j : Nat} {o C dx : Addr} {ns : List Str} {ds : List D} {to te : TE} {f : Str} (hI : ∀ b h h', c.fr = false → c.R.I b h → c.R.I b h' := by first | exact (fun _ _ _ z => nomatch z) | exact (fun _ _ _ _ z => z))
    (h : WE c te ς fun d ς1 => WE c to ς1 fun x ς2 => x = .ref o ∧ ς2.m[j]? = some (o, .ins C dx ns ds) ∧ Cls c.K C ∧ NoAttr c.K C f ∧ ns.length < 1000 ∧ Ψ.nx { ς2 with m := ς2.m.set j (o, .ins C dx (putN f ns) (putL f d ns ds)) }) :
    WS c (sFld c.K to te f) ς Ψ := fun σ k hh S E z =>
  h σ k hh S _ fun v k1 h1 d ς1 S1 e1 r1 q => q σ k1 h1 S1 _ fun x k2 h2 dd ς2 S2 e2 r2 ⟨ed, ej, hc, hn, hl, q2⟩ => by
    subst ed
    cases r2
    obtain ⟨a1, a2, fs, hv, en, rv⟩ := S2.at ej
    refine ⟨o, C, _, fs, rfl, hv, hc, hn, by rw [← en, List.length_map] at hl; exact hl, ?_⟩
    exact z.nx σ k2 _ _ (S2.put (mo' := .ins C dx (putN f ns) (putL f d ns ds)) ej hI ⟨putF f v fs, upd_same, by rw [put_names, en], by rw [← en]; exact put_rep f (r1.mono e2) rv⟩) (e1.trans e2) q2
/-! ### x += e -/
theorem ws_aug {i : Nat} {te : TE} {a : Int} {g : Int → Int → Int} (e : ς.δ[i]? = some (some (.int a))) (h : WE c te ς fun d ς1 => ∃ b, d = .int b ∧ Ψ.nx { ς1 with δ := ς1.δ.set i (some (.int (g a b))) } ∧ i < ς1.δ.length) : WS c (tAug i te (ipI g)) ς Ψ := fun σ k hh S E z => by
  obtain ⟨v, hv, r⟩ := S.s i _ e
  cases r
  refine ⟨_, hv, h σ k hh S _ fun v k1 h1 d ς1 S1 e1 r1 ⟨b, ed, q, l⟩ => ?_⟩
  subst ed
  cases r1
  exact ⟨a, b, rfl, rfl, z.nx _ k1 h1 _ (S1.set (.int _) l) e1 q⟩
/-! ### slices -/
def WO (c : Cn) (t : TO) (ς : Sta) (Φ : Option Int → Sta → Prop) : Prop :=
  ∀ (σ : L2.St) (k h : Hp), SR c ς σ k h → ∀ Q : Option Int → Hp → Prop, (∀ o k' h' ς', SR c ς' σ k' h' → Same k k' → Φ o ς' → Q o h') → t σ h Q
theorem wo_none {Φ : Option Int → Sta → Prop} (q : Φ none ς) : WO c tNoPart ς Φ := fun σ k h S Q z => z none k h ς S (Same.refl _) q
theorem wo_some {Φ : Option Int → Sta → Prop} {te : TE} (h : WE c te ς fun d ς1 => ∃ i, d = .int i ∧ Φ (some i) ς1) : WO c (tPart te) ς Φ := fun σ k hh S Q z =>
  h σ k hh S _ fun v k1 h1 d ς1 S1 e1 r1 ⟨i, ed, q⟩ => by
    subst ed
    cases r1
    exact ⟨i, rfl, z _ k1 h1 ς1 S1 e1 q⟩
def cutD (l : List D) (lo hi : Option Int) : List D := (l.drop (HT.sIx l.length 0 lo)).take (HT.sIx l.length l.length hi - HT.sIx l.length 0 lo)
theorem RepL.cut {K : PySem.W.Frag} {k : Hp} {vs : List V} {ds : List D} (r : RepL K k vs ds) (lo hi : Option Int) : RepL K k (cutV vs lo hi) (cutD ds lo hi) := by
  unfold cutV cutD
  rw [r.length]
  exact (r.drop _).take _
def rSlK (K : PySem.W.Frag) : V → Option Int → Option Int → Hp → VK → Prop := fun x lo hi H Q => rSlL K x lo hi H Q ∨ rSlA K x lo hi H Q
theorem SlR.or {X : Cx} {r r' : V → Option Int → Option Int → Hp → VK → Prop} (h : SlR X r) (h' : SlR X r') : SlR X fun x lo hi H Q => r x lo hi H Q ∨ r' x lo hi H Q := by
  intro pins s σ H x v vl vu lo hi sl Q I rx hs pl pu q
  rcases q with q | q
  · exact h pins s σ H x v vl vu lo hi sl Q I rx hs pl pu q
  · exact h' pins s σ H x v vl vu lo hi sl Q I rx hs pl pu q
theorem sl_K {X : Cx} : SlR X (rSlK X.K) := SlR.or sl_list sl_tupA
theorem we_slL {te : TE} {tl th : TO} (h : WE c te ς fun d ς1 => WO c tl ς1 fun lo ς2 => WO c th ς2 fun hi ς3 => ∃ l, d = .lst l ∧ Φ (.lst (cutD l lo hi)) ς3) : WE c (tSl (rSlK c.K) te tl th) ς Φ := fun σ k hh S Q z =>
  h σ k hh S _ fun v k1 h1 d ς1 S1 e1 r1 q1 => q1 σ k1 h1 S1 _ fun lo k2 h2 ς2 S2 e2 q2 => q2 σ k2 h2 S2 _ fun hi k3 h3 ς3 S3 e3 ⟨l, ed, q⟩ => by
    subst ed
    cases r1 with
    | lst ek er =>
      refine .inl ⟨_, _, rfl, SqL.of (S3.kh _ _ ((e2.trans e3) _ _ ek)), fun p n => ?_⟩
      have g : ∀ {o}, NT o → Grow No k3 h3 (upd k3 p o) (upd h3 p o) := fun t => Grow.new S3.kh n t
      exact z _ _ _ _ ς3 (S3.grow (g (by nofun))) (((e1.trans e2).trans e3).trans (g (by nofun)).kk) (.lst upd_same ((er.cut lo hi).mono (((e2.trans e3).trans (g (by nofun)).kk)))) q
theorem we_slT {te : TE} {tl th : TO} (h : WE c te ς fun d ς1 => WO c tl ς1 fun lo ς2 => WO c th ς2 fun hi ς3 => ∃ l, d = .tup l ∧ Φ (.tup (cutD l lo hi)) ς3) : WE c (tSl (rSlK c.K) te tl th) ς Φ := fun σ k hh S Q z =>
  h σ k hh S _ fun v k1 h1 d ς1 S1 e1 r1 q1 => q1 σ k1 h1 S1 _ fun lo k2 h2 ς2 S2 e2 q2 => q2 σ k2 h2 S2 _ fun hi k3 h3 ς3 S3 e3 ⟨l, ed, q⟩ => by
    subst ed
    have r1' := r1
    cases r1 with
    | tup ek er =>
      refine .inr ⟨_, _, rfl, Same.sqt S3.kh (Same.sqt (e2.trans e3) ek), fun w => ?_, fun _ p n => ?_⟩
      · have ew : cutD l lo hi = l := by
          unfold cutD
          rw [er.length] at w
          rw [w.1, w.2, List.drop_zero, Nat.sub_zero, List.take_length]
        rw [ew] at q
        exact z _ k3 h3 _ ς3 S3 ((e1.trans e2).trans e3) (r1'.mono (e2.trans e3)) q
      · have g : ∀ {o}, NT o → Grow No k3 h3 (upd k3 p o) (upd h3 p o) := fun t => Grow.new S3.kh n t
        exact z _ _ _ _ ς3 (S3.grow (g (by nofun))) (((e1.trans e2).trans e3).trans (g (by nofun)).kk) (.tup (.inl (.inl upd_same)) ((er.cut lo hi).mono (((e2.trans e3).trans (g (by nofun)).kk)))) q
/-! ### what is walked -/
theorem wi_list {te : TE} {Φ : List D → Sta → Prop} (h : WE c te ς fun d ς1 => ∃ l, d = .lst l ∧ Φ l ς1) : WI c (iList c.K te) ς Φ := fun σ k hh S R z =>
  h σ k hh S _ fun v k1 h1 d ς1 S1 e1 r1 ⟨l, ed, q⟩ => by
    subst ed
    cases r1 with
    | lst ek er =>
      rename_i a vs
      refine ⟨a, rfl, ⟨_, SqL.of (S1.kh _ _ ek)⟩, z _ k1 h1 l ς1 S1 e1 ⟨fun i h hi ⟨e, _⟩ => ?_, fun h ⟨e, _⟩ => ⟨vs, SqL.of (e _ _ ek), by rw [er.length]; exact Nat.le_refl _⟩, fun i h x h' d ed y kc e1 ⟨e2, _⟩ => ?_⟩ q⟩
      · have hv : i < vs.length := by rw [er.length]; exact hi
        exact ⟨vs, vs[i], SqL.of (e _ _ ek), by simp [hv]⟩
      · obtain ⟨rfl, y⟩ := y
        obtain ⟨u, hu, ru⟩ := er.get ed
        have := y vs (SqL.of (e2 _ _ (e1 _ _ ek)))
        rw [hu] at this
        cases this
        exact ⟨kc, Grow.refl e2, ru.mono e1⟩
theorem wi_tup {te : TE} {Φ : List D → Sta → Prop} (h : WE c te ς fun d ς1 => ∃ l, d = .tup l ∧ Φ l ς1) : WI c (iTup c.K te) ς Φ := fun σ k hh S R z =>
  h σ k hh S _ fun v k1 h1 d ς1 S1 e1 r1 ⟨l, ed, q⟩ => by
    subst ed
    cases r1 with
    | tup ek er =>
      rename_i a vs
      refine ⟨a, rfl, ⟨_, Same.sqt S1.kh ek⟩, z _ k1 h1 l ς1 S1 e1 ⟨fun i h hi ⟨e, _⟩ => ?_, fun h ⟨e, _⟩ => ⟨vs, Same.sqt e ek, by rw [er.length]; exact Nat.le_refl _⟩, fun i h x h' d ed y kc e1 ⟨e2, _⟩ => ?_⟩ q⟩
      · have hv : i < vs.length := by rw [er.length]; exact hi
        exact ⟨vs, vs[i], Same.sqt e ek, by simp [hv]⟩
      · obtain ⟨rfl, y⟩ := y
        obtain ⟨u, hu, ru⟩ := er.get ed
        have := y vs (Same.sqt e2 (Same.sqt e1 ek))
        rw [hu] at this
        cases this
        exact ⟨kc, Grow.refl e2, ru.mono e1⟩
def rngD (lo : Int) (n : Nat) : List D := (List.range n).map fun i : Nat => D.int (lo + (i : Int))
theorem rngD_len (lo : Int) (n : Nat) : (rngD lo n).length = n := by unfold rngD; rw [List.length_map, List.length_range]
theorem rngD_get {lo : Int} {n i : Nat} {d : D} (h : (rngD lo n)[i]? = some d) : d = .int (lo + (i : Int)) ∧ i < n := by
  unfold rngD at h
  rw [List.getElem?_map] at h
  by_cases hi : i < n
  · rw [List.getElem?_range hi] at h
    cases h
    exact ⟨rfl, hi⟩
  · rw [List.getElem?_eq_none (by rw [List.length_range]; omega)] at h
    cases h
theorem walk_rng {c : Cn} {k : Hp} (lo : Int) (n : Nat) : WalkD c (Itr lo n) k (rngD lo n) :=
  ⟨fun i h hi _ => by rw [rngD_len] at hi; exact hi, fun h _ => by rw [rngD_len]; exact Nat.le_refl _, fun i h x h' d ed y kc e1 ⟨e2, _⟩ => by
    obtain ⟨rfl, rfl⟩ := y
    obtain ⟨rfl, _⟩ := rngD_get ed
    exact ⟨kc, Grow.refl e2, .int _⟩⟩
theorem wi_rng1 {ta : TA} {Φ : List D → Sta → Prop} (h : WL c ta ς fun ds ς1 => ∃ j : Int, ds = [.int j] ∧ -(2 ^ 62) ≤ j ∧ j < 2 ^ 62 ∧ Φ (rngD 0 j.toNat) ς1) : WI c (iRng1 ta) ς Φ := fun σ k hh S R z =>
  h σ k hh S _ fun vs k1 h1 ds ς1 S1 e1 r1 ⟨j, ed, a, b, q⟩ => by
    subst ed
    cases r1 with
    | cons r1 r2 =>
      cases r1; cases r2
      exact ⟨j, rfl, a, b, z _ k1 h1 _ ς1 S1 e1 (walk_rng 0 _) q⟩
theorem wi_rng2 {ta : TA} {Φ : List D → Sta → Prop} (h : WL c ta ς fun ds ς1 => ∃ i j : Int, ds = [.int i, .int j] ∧ (-(2 ^ 62) ≤ i ∧ i < 2 ^ 62 ∧ -(2 ^ 62) ≤ j ∧ j < 2 ^ 62) ∧ Φ (rngD i (j - i).toNat) ς1) : WI c (iRng2 ta) ς Φ := fun σ k hh S R z =>
  h σ k hh S _ fun vs k1 h1 ds ς1 S1 e1 r1 ⟨i, j, ed, a, q⟩ => by
    subst ed
    cases r1 with
    | cons r1 r2 => cases r2 with
      | cons r2 r3 =>
        cases r1; cases r2; cases r3
        exact ⟨i, j, rfl, a, z _ k1 h1 _ ς1 S1 e1 (walk_rng i _) q⟩
def enumD (l : List D) : List D := l.mapIdx fun i d => .tup [.int (i : Nat), d]
theorem enumD_get {l : List D} {i : Nat} {d : D} (h : (enumD l)[i]? = some d) : ∃ x, l[i]? = some x ∧ d = .tup [.int (i : Nat), x] := by
  unfold enumD at h
  rw [List.getElem?_mapIdx] at h
  cases e : l[i]? with
  | none => rw [e] at h; cases h
  | some x => rw [e] at h; cases h; exact ⟨x, rfl, rfl⟩
theorem wi_enum {ta : TA} {Φ : List D → Sta → Prop} (h : WL c ta ς fun ds ς1 => ∃ l, ds = [.lst l] ∧ Φ (enumD l) ς1) : WI c (iEnum c.K ta) ς Φ := fun σ k hh S R z =>
  h σ k hh S _ fun vs k1 h1 ds ς1 S1 e1 r1 ⟨l, ed, q⟩ => by
    subst ed
    cases r1 with
    | cons r1 r2 =>
      cases r2
      cases r1 with
      | lst ek er =>
        rename_i a vs
        refine ⟨a, vs, rfl, SqL.of (S1.kh _ _ ek), z _ k1 h1 _ ς1 S1 e1 ⟨fun i h hi ⟨e, _⟩ => ?_, fun h ⟨e, _⟩ => ⟨vs, SqL.of (e _ _ ek), ?_⟩, fun i h x h' d ed y kc e1 ⟨e2, _⟩ => ?_⟩ q⟩
        · have hv : i < vs.length := by rw [er.length]; unfold enumD at hi; rw [List.length_mapIdx] at hi; exact hi
          exact ⟨vs, vs[i], SqL.of (e _ _ ek), by simp [hv]⟩
        · unfold enumD
          rw [List.length_mapIdx, er.length]
          exact Nat.le_refl _
        · obtain ⟨T, u, rfl, nT, rfl, y⟩ := y
          obtain ⟨x, hx, rfl⟩ := enumD_get ed
          obtain ⟨u', hu, ru⟩ := er.get hx
          have := y vs (SqL.of (e2 _ _ (e1 _ _ ek)))
          rw [hu] at this
          cases this
          have g : Grow No kc h (upd kc T (.tup [.int (i : Nat), u])) (upd h T (.tup [.int (i : Nat), u])) := Grow.new e2 nT (by nofun)
          exact ⟨_, g, .tup (.inl (.inl upd_same)) (.cons (.int _) (.cons (ru.mono (e1.trans g.kk)) .nil))⟩
def zipD (l m : List D) : List D := (l.zip m).map fun p => .tup [p.1, p.2]
theorem zipD_get {l m : List D} {i : Nat} {d : D} (h : (zipD l m)[i]? = some d) : ∃ x y, l[i]? = some x ∧ m[i]? = some y ∧ d = .tup [x, y] := by
  unfold zipD at h
  rw [List.getElem?_map] at h
  cases e : (l.zip m)[i]? with
  | none => rw [e] at h; cases h
  | some p =>
    rw [e] at h
    cases h
    obtain ⟨h1, h2⟩ := List.getElem?_zip_eq_some.mp e
    exact ⟨_, _, h1, h2, rfl⟩
theorem wi_zip {ta : TA} {Φ : List D → Sta → Prop} (h : WL c ta ς fun ds ς1 => ∃ l m, ds = [.lst l, .lst m] ∧ Φ (zipD l m) ς1) : WI c (RZ.iZipA c.K ta) ς Φ := fun σ k hh S R z =>
  h σ k hh S _ fun vs k1 h1 ds ς1 S1 e1 r1 ⟨l, m, ed, q⟩ => by
    subst ed
    cases r1 with
    | cons r1 r2 => cases r2 with
      | cons r2 r3 =>
        cases r3
        cases r1 with
        | lst ek er => cases r2 with
          | lst ek2 er2 =>
            rename_i a vs a2 vs2
            refine ⟨_, _, _, _, rfl, .inl ⟨SqL.of (S1.kh _ _ ek), SqL.of (S1.kh _ _ ek2), z _ k1 h1 _ ς1 S1 e1 ⟨fun i h hi ⟨e, _⟩ => ?_, fun h ⟨e, _⟩ => ⟨_, _, SqL.of (e _ _ ek), SqL.of (e _ _ ek2), ?_⟩, fun i h x h' d ed y kc e1 ⟨e2, _⟩ => ?_⟩ q⟩⟩
            · unfold zipD at hi
              rw [List.length_map, List.length_zip, ← er.length, ← er2.length] at hi
              refine ⟨_, _, _, _, SqL.of (e _ _ ek), SqL.of (e _ _ ek2), List.getElem?_eq_getElem (by omega), List.getElem?_eq_getElem (by omega)⟩
            · unfold zipD
              rw [List.length_map, List.length_zip, ← er.length, ← er2.length]
              omega
            · obtain ⟨T, u, u2, rfl, nT, rfl, y1, y2⟩ := y
              obtain ⟨x, x2, hx, hx2, rfl⟩ := zipD_get ed
              obtain ⟨u', hu, ru⟩ := er.get hx
              obtain ⟨u2', hu2, ru2⟩ := er2.get hx2
              have t1 := y1 _ (SqL.of (e2 _ _ (e1 _ _ ek)))
              have t2 := y2 _ (SqL.of (e2 _ _ (e1 _ _ ek2)))
              rw [hu] at t1
              rw [hu2] at t2
              cases t1
              cases t2
              have g : Grow No kc h (upd kc T (.tup [u, u2])) (upd h T (.tup [u, u2])) := Grow.new e2 nT (by nofun)
              exact ⟨_, g, .tup (.inl (.inl upd_same)) (.cons (ru.mono (e1.trans g.kk)) (.cons (ru2.mono (e1.trans g.kk)) .nil))⟩
theorem wi_zipT {ta : TA} {Φ : List D → Sta → Prop} (h : WL c ta ς fun ds ς1 => ∃ l m, ds = [.tup l, .tup m] ∧ Φ (zipD l m) ς1) : WI c (RZ.iZipA c.K ta) ς Φ := fun σ k hh S R z =>
  h σ k hh S _ fun vs k1 h1 ds ς1 S1 e1 r1 ⟨l, m, ed, q⟩ => by
    subst ed
    cases r1 with
    | cons r1 r2 => cases r2 with
      | cons r2 r3 =>
        cases r3
        cases r1 with
        | tup ek er => cases r2 with
          | tup ek2 er2 =>
            refine ⟨_, _, _, _, rfl, .inr ⟨Same.sqt S1.kh ek, Same.sqt S1.kh ek2, z _ k1 h1 _ ς1 S1 e1 ⟨fun i h hi ⟨e, _⟩ => ?_, fun h ⟨e, _⟩ => ⟨_, _, Same.sqt e ek, Same.sqt e ek2, ?_⟩, fun i h x h' d ed y kc e1 ⟨e2, _⟩ => ?_⟩ q⟩⟩
            · unfold zipD at hi
              rw [List.length_map, List.length_zip, ← er.length, ← er2.length] at hi
              refine ⟨_, _, _, _, Same.sqt e ek, Same.sqt e ek2, List.getElem?_eq_getElem (by omega), List.getElem?_eq_getElem (by omega)⟩
            · unfold zipD
              rw [List.length_map, List.length_zip, ← er.length, ← er2.length]
              omega
            · obtain ⟨T, u, u2, rfl, nT, rfl, y1, y2⟩ := y
              obtain ⟨x, x2, hx, hx2, rfl⟩ := zipD_get ed
              obtain ⟨u', hu, ru⟩ := er.get hx
              obtain ⟨u2', hu2, ru2⟩ := er2.get hx2
              have t1 := y1 _ (Same.sqt e2 (Same.sqt e1 ek))
              have t2 := y2 _ (Same.sqt e2 (Same.sqt e1 ek2))
              rw [hu] at t1
              rw [hu2] at t2
              cases t1
              cases t2
              have g : Grow No kc h (upd kc T (.tup [u, u2])) (upd h T (.tup [u, u2])) := Grow.new e2 nT (by nofun)
              exact ⟨_, g, .tup (.inl (.inl upd_same)) (.cons (ru.mono (e1.trans g.kk)) (.cons (ru2.mono (e1.trans g.kk)) .nil))⟩
end
end DL

set_option Elab.async false
set_option linter.all false
set_option maxRecDepth 100000
set_option maxHeartbeats 2000000
namespace DL
open PySem PySem.Spec PyProof.Rows L2

/-! ### a def of the module, with its promise -/
structure CalX (P : Program) (w : World) (K : PySem.W.Frag) (mg : Str → Option Value) (base : Heap) (k : Nat) (x : Str) (sp : Sp) : Prop where
  ex : ∃ (f : Addr) (fd : FuncData) (ps : List Str), FnOk P w K mg base (L2.CX P w) k f fd ps sp ∧ mg x = some (.ref f) ∧ PySem.W.keepIn K (.ref f) = true ∧ Binds K fd ps []
/-- an own class, with its __init__'s promise -/
structure MakX (P : Program) (w : World) (K : PySem.W.Frag) (mg : Str → Option Value) (base : Heap) (k : Nat) (x : Str) (C : Addr) (sp : Sp) : Prop where
  ex : ∃ (f : Addr) (fd : FuncData) (ps : List Str), Mk K C f ∧ FnOk P w K mg base (L2.CX P w) k f fd ps sp ∧ mg x = some (.ref C) ∧ Binds K fd ps []
/-- a method of an own class -/
structure MetX (P : Program) (w : World) (K : PySem.W.Frag) (mg : Str → Option Value) (base : Heap) (k : Nat) (C : Addr) (m : Str) (sp : Sp) : Prop where
  ex : ∃ (f : Addr) (fd : FuncData) (ps : List Str), Cls K C ∧ Meth K C m f ∧ FnOk P w K mg base (L2.CX P w) k f fd ps sp ∧ Binds K fd ps []
section
variable {X : Cx} {E : XK} {x m : Str} {C : Addr} {k j : Nat} {sp : Sp} {e o : Expr} {es : List Expr} {t : TA} {to : TE} {p apos pos : Pos}
theorem pe_cx (c : CalX X.prog X.w X.K X.mg X.base k x sp) (hr : Room j X.A) (hk : k ≤ j) (hg : Gl X x) (hx : Passes (L2.CX X.prog X.w) X E) (ha : PA X (e :: es) t)
    (hdb : (x == ("__debug__" : Str)) = false := by decide) (hs : starEach (e :: es) X.env = (false, eval e X.env) :: starEach es X.env := by rfl) (hpl : (backTo pos (starEach es X.env)).any (·.1) = false := by rfl) :
    PE X (.Call (.Name x p) (e :: es) [] pos) (tCall sp [] E t) := by
  obtain ⟨f, fd, ps, F, hm, hk2, hb⟩ := c.ex
  exact pe_call F (hr.mono hk) hg hm hk2 hb .nil hx ha hdb hs hpl
theorem pe_cx0 (c : CalX X.prog X.w X.K X.mg X.base k x sp) (hr : Room j X.A) (hk : k ≤ j) (hg : Gl X x) (hx : Passes (L2.CX X.prog X.w) X E)
    (hdb : (x == ("__debug__" : Str)) = false := by decide) : PE X (.Call (.Name x p) [] [] pos) (tCall sp [] E tNil) := by
  obtain ⟨f, fd, ps, F, hm, hk2, hb⟩ := c.ex
  exact pe_call0 F (hr.mono hk) hg hm hk2 hb .nil hx hdb
end

/-! ### the stream of draws -/
/-- at a: the cells' list (at l), what is left of a great one, how many were drawn (b at most), what the lesser ones mix -/
def StrmAt (a l : Addr) (b : Nat) (h : Hp) : Prop := ∃ (cells : List Int) (x n m : Int), h a = some (.lst [.ref l, .int x, .int n, .int m]) ∧ h l = some (.lst (cells.map V.int)) ∧ 0 ≤ n ∧ n ≤ b ∧ 0 ≤ m ∧ m < 2147483647
def strm (a l : Addr) : Res where
  W := fun z => z = a ∨ z = l
  I := fun b h => a ≠ l ∧ StrmAt a l b h
  st := fun b h h' k => by
    rintro ⟨n, cells, x, y, m, h1, h2, h3⟩
    exact ⟨n, cells, x, y, m, k _ _ (.inl (.inl rfl)) h1, k _ _ (.inl (.inr rfl)) h2, h3⟩
end DL

set_option Elab.async false
set_option linter.all false
set_option maxRecDepth 100000
set_option maxHeartbeats 2000000
namespace DL
open PySem PySem.Spec PyProof.Rows L2
/-! ### isinstance -/
def tyN : D → Option String
  | .non => some "NoneType"
  | .bl _ => some "bool"
  | .int _ => some "int"
  | .str _ => some "str"
  | .lst _ => some "list"
  | .tup _ => some "tuple"
  | .dct _ _ => some "dict"
  | _ => none
theorem Rep.tyX {K : PySem.W.Frag} {k h : Hp} {v : V} {d : D} {s : String} (e : Same k h) (r : Rep K k v d) (q : tyN d = some s) : TyX K h v (.type s) := by
  cases r with
  | non => cases q; exact .base .non
  | bl b => cases q; exact .base (.bl b)
  | int i => cases q; exact .base (.int i)
  | str x => cases q; exact .base (.str x)
  | lst ek _ => cases q; exact .base (.lst (e _ _ ek))
  | tup ek _ =>
    cases q
    rcases ek with (ek | ⟨o, ek⟩) | ⟨o, its, n, hk, hc, _⟩
    · exact .base (.tup (e _ _ ek))
    · exact .fTuple (e _ _ ek)
    · exact .kTuple hk hc
  | dct ek _ _ => cases q; exact .base (.dK (e _ _ ek))
  | obj _ _ _ => cases q
  | ty _ => cases q
  | ref _ => cases q
  | exc _ _ _ => cases q
/-- is a thing of the type a one of the type b (built-in types) -/
def isB : String → String → Bool
  | "bool", "int" => true
  | a, b => a == b
abbrev Knd (a : String) : Prop := a = "NoneType" ∨ a = "bool" ∨ a = "int" ∨ a = "str" ∨ a = "list" ∨ a = "tuple" ∨ a = "dict"
theorem kitB_is : ∀ {a b : String}, Knd a → Knd b → kitB a b = some (isB a b) := by
  intro a b ha hb
  rcases ha with rfl | rfl | rfl | rfl | rfl | rfl | rfl <;> rcases hb with rfl | rfl | rfl | rfl | rfl | rfl | rfl <;> decide +kernel
theorem tyN_knd {d : D} {s : String} (h : tyN d = some s) : Knd s := by
  cases d <;> cases h <;> simp [Knd]
section
variable {c : Cn} {ς : Sta} {Φ : D → Sta → Prop} {K : PySem.W.Frag} {Φ' : D → Prop}
theorem rc_isi {d : D} {n s : String} (hs : tyN d = some s) (hn : Knd n) (q : Φ' (.bl (isB s n))) : RC K (rIsi K) [d, .ty n] Φ' := fun k h vs e r Q z => by
  cases r with
  | cons r1 r2 => cases r2 with
    | cons r2 r3 =>
      cases r2; cases r3
      exact ⟨_, _, _, _, _, rfl, .ty n, r1.tyX e hs, kit_ty (kitB_is (tyN_knd hs) hn), z _ k h _ (Grow.refl e) (.bl _) q⟩
theorem kitAny_tys {K : PySem.W.Frag} {s : String} (hs : Knd s) : ∀ {ns : List String}, (∀ n ∈ ns, Knd n) → PySem.W.kitAny K (.type s) (ns.map Value.type) = some (ns.any fun n => isB s n)
  | [], _ => rfl
  | n :: ns, h => by
    rw [List.map_cons, List.any_cons]
    refine kitAny_cons (kit_ty (kitB_is hs (h n List.mem_cons_self))) (fun e => ?_) fun e => by rw [e]; rfl
    rw [e, Bool.false_or]
    exact kitAny_tys hs fun m hm => h m (List.mem_cons_of_mem _ hm)
def tTys : List String → TA
  | [] => tNil
  | n :: ns => tCons (tC (.ty n)) (tTys ns)
theorem tTys_go {σ : L2.St} {h : Hp} {Q : List V → Hp → Prop} : ∀ {ns : List String}, Q (ns.map V.ty) h → tTys ns σ h Q
  | [], q => q
  | n :: ns, q => tTys_go (ns := ns) (Q := fun xs H2 => Q (.ty n :: xs) H2) q
theorem clsV_tys : ∀ {ns : List String}, Paired ClsV (ns.map V.ty) (ns.map Value.type)
  | [] => .nil
  | n :: ns => .cons (.ty n) clsV_tys
/-- isinstance(x, (T1, T2, ..)) -/
theorem we_isiT {ns : List String} {te : TE} (hn : ∀ n ∈ ns, Knd n) (hl : ns.length ≤ 100) (h : WE c te ς fun d ς1 => ∃ s, tyN d = some s ∧ Φ (.bl (ns.any fun n => isB s n)) ς1) :
    WE c (tCB (rIsiT c.K) (tCons te (tCons (tTup (tTys ns)) tNil))) ς Φ := fun σ k hh S Q z =>
  h σ k hh S _ fun v k1 h1 d ς1 S1 e1 r1 ⟨s, hs, q⟩ => by
    refine tTys_go (h := h1) ⟨by rw [List.length_map, sizeLine_eq]; omega, fun p n => ?_⟩
    have g : Grow No k1 h1 k1 (upd h1 p (.tup (ns.map V.ty))) := Grow.newU S1.kh n
    refine ⟨v, p, _, _, _, _, rfl, upd_same, clsV_tys, r1.tyX (g.kh) hs, kitAny_tys (tyN_knd hs) hn, z _ k1 _ _ ς1 (S1.grow g) e1 (.bl _) q⟩
end
end DL

set_option Elab.async false
set_option linter.all false
set_option maxRecDepth 100000
set_option maxHeartbeats 2000000
namespace DL
open PySem PySem.Spec PyProof.Rows L2
/-! ### a list or a tuple walked -/
def iSeq (K : PySem.W.Frag) (te : TE) : TI := fun σ H R => iList K te σ H R ∨ iTup K te σ H R
theorem pi_seq {X : Cx} {tg l : Expr} {te : TE} (h : PE X l te) : PI X tg l (iSeq X.K te) := ⟨fun pins s σ H R I q => by
  rcases q with q | q
  · exact (pi_list h).run pins s σ H R I q
  · exact (pi_tup h).run pins s σ H R I q⟩
section
variable {c : Cn} {ς : Sta} {Φ : List D → Sta → Prop} {Φe : D → Sta → Prop} {Ψ : Psi}
theorem wi_seqL {te : TE} (h : WE c te ς fun d ς1 => ∃ l, d = .lst l ∧ Φ l ς1) : WI c (iSeq c.K te) ς Φ := fun σ k hh S R z => .inl (wi_list h σ k hh S R z)
theorem wi_seqT {te : TE} (h : WE c te ς fun d ς1 => ∃ l, d = .tup l ∧ Φ l ς1) : WI c (iSeq c.K te) ς Φ := fun σ k hh S R z => .inr (wi_tup h σ k hh S R z)
theorem we_revL {te : TE} (h : WE c te ς fun d ς1 => ∃ l, d = .lst l ∧ Φe (.lst l.reverse) ς1) : WE c (tRevL c.K te) ς Φe := fun σ k hh S Q z =>
  h σ k hh S _ fun v k1 h1 d ς1 S1 e1 r1 ⟨l, ed, q⟩ => by
    subst ed
    cases r1 with
    | lst ek er =>
      refine ⟨_, _, rfl, SqL.of (S1.kh _ _ ek), fun p n => ?_⟩
      have g : ∀ {o}, NT o → Grow No k1 h1 (upd k1 p o) (upd h1 p o) := fun t => Grow.new S1.kh n t
      exact z _ _ _ _ ς1 (S1.grow (g (by nofun))) (e1.trans (g (by nofun)).kk) (.lst upd_same (er.reverse.mono (g (by nofun)).kk)) q
theorem we_chain {r r' : R2} {ta tb tc : TE} (h : WE c ta ς fun d1 ς1 => WE c tb ς1 fun d2 ς2 => RD c.K r d1 d2 fun x => ∃ b, x = .bl b ∧ (b = false → Φe (.bl false) ς2) ∧ (b = true → WE c tc ς2 fun d3 ς3 => RD c.K r' d2 d3 fun y => Φe y ς3)) :
    WE c (tChain r r' ta tb tc) ς Φe := fun σ k hh S Q z =>
  h σ k hh S _ fun v1 k1 h1 d1 ς1 S1 e1 r1 q1 => q1 σ k1 h1 S1 _ fun v2 k2 h2 d2 ς2 S2 e2 r2 q2 => q2 k2 h2 v1 v2 S2.kh (r1.mono e2) r2 _ fun v k3 h3 d g rr ⟨b, eb, qf, qt⟩ => by
    subst eb
    cases rr
    have S3 := S2.grow g
    refine ⟨b, rfl, ?_⟩
    cases b with
    | false => exact iteF (z _ k3 h3 _ ς2 S3 ((e1.trans e2).trans g.kk) (.bl _) (qf rfl))
    | true => exact iteT (qt rfl σ k3 h3 S3 _ fun v4 k4 h4 d4 ς4 S4 e4 r4 q4 => q4 k4 h4 v2 v4 S4.kh (r2.mono (g.kk.trans e4)) r4 Q fun v5 k5 h5 d5 g5 r5 q5 => z v5 k5 h5 d5 ς4 (S4.grow g5) ((((e1.trans e2).trans g.kk).trans e4).trans g5.kk) r5 q5)
theorem pe_tyn {X : Cx} {x : Str} {n : String} {pos : Pos} (hg : Gl X x) (hm : X.mg x = none) (hv : bootBuiltins x = some (.type n)) (hn : x ≠ "__name__" := by decide) (hd : (x == ("__debug__" : Str)) = false := by decide) : PE X (.Name x pos) (tC (.ty n)) :=
  pe_bltn hg hm hv rfl hn hd
/-! ### known numbers of the module -/
theorem wt_val {t : TE} {Φ : Bool → Sta → Prop} (h : WE c t ς fun d ς1 => ∃ b, d = .bl b ∧ Φ b ς1) : WT c (tB t) ς Φ := wt_B h
end
end DL

set_option Elab.async false
set_option linter.all false
set_option maxRecDepth 100000
set_option maxHeartbeats 2000000
namespace DL
open PySem PySem.Spec PyProof.Rows L2
theorem br {p q : Prop} {b : Bool} (h1 : b = true → p) (h2 : b = false → q) : (b = true → p) ∧ (b = false → q) := ⟨h1, h2⟩
theorem brT {p q : Prop} (h1 : p) : (true = true → p) ∧ (true = false → q) := ⟨fun _ => h1, fun z => (nomatch z)⟩
theorem brF {p q : Prop} (h1 : q) : (false = true → p) ∧ (false = false → q) := ⟨fun z => (nomatch z), fun _ => h1⟩
theorem brT' {p q : Prop} (h1 : p) : (true = false → q) ∧ (true = true → p) := ⟨fun z => (nomatch z), fun _ => h1⟩
theorem brF' {p q : Prop} (h1 : q) : (false = false → q) ∧ (false = true → p) := ⟨fun _ => h1, fun z => (nomatch z)⟩
theorem brD {p q c : Prop} [Decidable c] (h1 : c → p) (h2 : ¬ c → q) : (decide c = true → p) ∧ (decide c = false → q) := ⟨fun z => h1 (of_decide_eq_true z), fun z => h2 (of_decide_eq_false z)⟩
theorem brD' {p q c : Prop} [Decidable c] (h1 : c → p) (h2 : ¬ c → q) : (decide c = false → q) ∧ (decide c = true → p) := ⟨fun z => h2 (of_decide_eq_false z), fun z => h1 (of_decide_eq_true z)⟩
theorem brN {p q c : Prop} [Decidable c] (h1 : ¬ c → p) (h2 : c → q) : ((!decide c) = true → p) ∧ ((!decide c) = false → q) := ⟨fun z => h1 (of_decide_eq_false (by simpa using z)), fun z => h2 (of_decide_eq_true (by simpa using z))⟩
theorem brN' {p q c : Prop} [Decidable c] (h1 : ¬ c → p) (h2 : c → q) : ((!decide c) = false → q) ∧ ((!decide c) = true → p) := ⟨fun z => h2 (of_decide_eq_true (by simpa using z)), fun z => h1 (of_decide_eq_false (by simpa using z))⟩
/-- the steps that need no counsel -/
local macro_rules | `(tactic| walk_at "s1") => `(tactic| with_reducible first
  | refine ws_seq ?_ | refine ws_next ?_ | refine ws_ret ?_ | refine ws_retN ?_ | refine ws_if ?_ | refine ws_asg ?_ | refine ws_drop ?_ | refine ws_par ?_ | refine ws_break ?_ | refine ws_cont ?_
  | refine we_var rfl ?_ | refine we_int ?_ | refine we_non ?_ | refine we_bl ?_ | refine we_str ?_ | refine we_ty ?_ | refine we_op ?_ | refine we_un ?_
  | refine we_and ?_ | refine we_or ?_ | refine we_not ?_ | refine we_if ?_ | refine we_chain ?_ | refine we_cb ?_ | refine we_tup ?_ | refine we_lst ?_
  | refine wl_cons ?_ | refine wl_nil ?_ | refine wt_B ?_ | refine wt_test ?_ | refine wt_and ?_ | refine wt_or ?_ | refine wt_not ?_ | refine wt_yes ?_
  | refine wg_name (by decide) ?_ | refine wg_tup rfl ?_ | refine wgs_cons ?_ | refine wgs_nil ?_
  | refine rd_add_int ?_ | refine rd_sub ?_ | refine rd_lt ?_ | refine rd_le ?_ | refine rd_gt ?_ | refine rd_ge ?_ | refine rd_eq_int ?_ | refine rd_ne_int ?_ | refine rd_eq_str ?_ | refine rd_ne_str ?_ | refine rd_eq_bl ?_ | refine rd_ne_bl ?_ | refine rd_is ?_ | refine rd_isnot ?_ | refine ru_neg ?_
  | refine rc_int ?_ | refine rc_abs ?_
  | refine brT ?_ | refine brF ?_ | refine brT' ?_ | refine brF' ?_
  | refine ⟨_, rfl, ?_⟩)
end DL

set_option Elab.async false
set_option linter.all false
set_option maxRecDepth 100000
set_option maxHeartbeats 4000000
/-! own exceptions whose __init__ says super().__init__(a text) and then stores its parameters -/
namespace DX
open PySem PySem.W PySem.Calls PyProof.Rows PySem.HandSPX
/-- self.f1 = f1; self.f2 = f2; .. -/
inductive Asg : List Stmt → List Str → Prop
  | nil : Asg [] []
  | cons {q1 q2 q3 q4 : Pos} {f : Str} {sts : List Stmt} {fs : List Str} (r : Asg sts fs) : Asg (.Assign [.Attribute (.Name "self" q1) f q2] (.Name f q3) q4 :: sts) (f :: fs)
end DX
namespace DX
open PySem PySem.W PySem.Calls PyProof.Rows PySem.HandSPX
/-- the shape of such an __init__ -/
structure Shape (params : Arguments) (body : List Stmt) (scope : Scope) (fs : List Str) : Prop where
  body : ∃ (p0 p1 p2 p3 p4 p5 : Pos) (m : Str) (j : Nat) (rest : List Stmt), body = .Expr (.Call (.Attribute (.Call (.Name "super" p0) [] [] p1) "__init__" p2) [.Constant (.str m) j p5] [] p3) p4 :: rest ∧ Asg rest fs ∧ (p2.endLine == p3.line) = true
  kind : scope.kind = .function
  co : scope.isCoroutine = false
  gen : scope.isGenerator = false
  cell : ∀ x ∈ scope.names, x.2 ≠ .cell
  ks : scope.names.lookup ("super" : Str) = some .globalImplicit
  kc : scope.names.lookup ("__class__" : Str) = some .free
  ka : scope.names.lookup ("self" : Str) = some .local
  kf : ∀ f ∈ fs, scope.names.lookup f = some .local ∧ (f == ("__debug__" : Str)) = false
  arg : ∃ ar : Arg, (params.posonlyargs ++ params.args).head? = some ar ∧ ar.arg = ("self" : Str)
  nd : (("self" : Str) :: fs).Nodup
/-- what the written part says of the class x at C, its __init__ at fI -/
structure Txt (P : Program) (K : Frag) (mg : Str → Option Value) (x : Str) (C fI : Addr) (fs : List Str) : Prop where
  gC : mg x = some (.ref C)
  cls : ∃ nm q N bs bm sn sub ab col dd k0 k1 k2 k3 k5, K.lookup C = some (excClassObj nm q C N bs bm true sn sub ab col dd k0 k1 k2 k3 k5 "ValueError.__new__") ∧ refsVE bm = true
  sa : findIn K (.ref C) "__setattr__" = some (some (.builtin "object.__setattr__"))
  xf : L2.XfC K C
  noN : ∀ f ∈ fs, findIn K (.ref C) f = some none
  iC : findIn K (.ref C) "__init__" = some (some (.ref fI))
  tC : typeIn K (.ref fI) = some (.type "function")
  kC : keepIn K (.ref C) = true
  tyC : typeIn K (.ref C) = some (.type "type")
  veC : subIn K (.ref C) (.type "ValueError") = some true
  te : exmOne K (.ref C) (.ref C) = some true
  sup : ks_superIn K C C "__init__" = some (some (.builtin "ValueError.__init__"))
  hsub : mroIn K C (.ref C) = some true
  hsuper : nsIn K mainGlobals "super" = some none
  any : nsIn K cStatics "thirdparty.any" = some none
  top : (P.main.scope.names.lookup ("super" : Str)).isSome = false
  fn : ∃ (oc ccl cl doc pm ct : Value) (od an cdd cld : Option Addr) (osl ccs csl : Array (Option Value)) (cda cc : Addr) (qual : Str) (params : Arguments) (body : List Stmt) (scope : Scope) (vs : Array Value) (file : Str) (tf : Tok),
    K.lookup fI = some ⟨oc, od, .func (ksFn "__init__" qual params body scope .none .none doc pm an (.ref cda) ct cc), osl⟩ ∧ codeIn K (.ref cda) qual = true ∧ Shape params body scope fs ∧
    (∀ (s : Shared) (us : List Value), us.length = fs.length + 1 → BindsTo s (ksFn "__init__" qual params body scope .none .none doc pm an (.ref cda) ct cc) ⟨us, []⟩ ((("self" : Str) :: fs).zip us)) ∧
    K.lookup cda = some ⟨ccl, cdd, .fields vs, ccs⟩ ∧ vs[2]? = some (.str file tf) ∧ ((P.main.file : Str) == file) = true ∧ K.lookup cc = some ⟨cl, cld, .cell (some (.ref C)), csl⟩

def mapOf : List (Str × Value) → Str → Option Value
  | [] => fun _ => none
  | (f, v) :: r => fun y => if y = f then some v else mapOf r y
theorem mapOf_within : ∀ r : List (Str × Value), Within (mapOf r) (r.map (·.1))
  | [], _, h => absurd rfl h
  | (f, v) :: r, y, h => by
    by_cases e : y = f
    · subst e; exact List.mem_cons_self
    · exact List.mem_cons_of_mem _ (mapOf_within r y (by unfold mapOf at h; rw [if_neg e] at h; exact h))
/-- an exception at x, its fields so far -/
structure At (h₀ h : Heap) (x C L : Addr) (r : List (Str × Value)) (od : Option Addr) : Prop where
  keep : ∀ b o, b ≠ x → h₀.get? b = some o → h.get? b = some o
  obj : ∃ t1 : Addr, h.get? x = some { cls := .ref C, dict := od, data := .fields #[.ref t1, .none, .none, .none, .bool false, .none] }
  dict : match od with
    | none => r = []
    | some dx => h₀.objs.size ≤ dx ∧ L < dx ∧ dx ≠ x ∧ h.Ns1 dx (mapOf r) ∧ r ≠ []
section
variable {prog : Program} {w : World} {A : Around} {E : Value → Shared → Prop} {K : Frag} {mg : Str → Option Value} {C fI x L : Addr} {h₀ : Heap} {m : Str → Option Value} {env : Env}
theorem asg_run {P : Flow → Shared → Prop} {g : Array GenState} {d : Drawn} {os : OsState} {cd : ClassData} (hcl : clsIn K C = some cd) (hm : refsVE cd.mro = true) (hh : cd.hasDict = true) (sa : findIn K (.ref C) "__setattr__" = some (some (.builtin "object.__setattr__")))
    (hk : env.scope.kind = .function) (hL : env.locals = L) (hL0 : h₀.objs.size ≤ L) (hxL : L ≠ x) (hself : m "self" = some (.ref x)) (hks : env.kindOf "self" = some .local) (hnx : ∀ o, K.lookup x ≠ some o) : ∀ {rest : List Stmt} {fs : List Str}, Asg rest fs →
    ∀ (h : Heap) (tk : Nat) (r : List (Str × Value)) (od : Option Addr), (∀ f ∈ fs, findIn K (.ref C) f = some none ∧ env.kindOf f = some .local ∧ (f == ("__debug__" : Str)) = false ∧ ∃ v, m f = some v) →
      K.In h₀ → h.Ns L m → At h₀ h x C L r od → r.length + fs.length ≤ 900 → (∀ h' tk' od', At h₀ h' x C L ((fs.map fun f => (f, (m f).getD .none)).reverse ++ r) od' → P .next ⟨h', g, d, tk', os⟩) →
      wpAny (model prog w) A (execs rest env) P E ⟨h, g, d, tk, os⟩ := by
  intro rest fs ha
  induction ha with
  | nil => intro h tk r od _ _ _ a _ q; exact wpAny_execs_nil (q h tk od a)
  | @cons q1 q2 q3 q4 f sts fs hr ih =>
    intro h tk r od hf X hn a hl q
    obtain ⟨f1, f2, f3, v, f4⟩ := hf f List.mem_cons_self
    have Xh : K.In h := fun b o e => a.keep b o (fun z => hnx o (by rw [← z]; exact e)) (X b o e)
    refine wpAny_execs_cons (plainObj_wpAny_Assign_Attribute ?_ (by rfl))
    refine wpAny_Name (wpAny_loadName_local hk f2 (by rw [hL]; exact hn) f4 ?_) f3
    refine wpAny_Name (wpAny_loadName_local hk hks (by rw [hL]; exact hn) hself ?_) (by decide)
    obtain ⟨t1, ho⟩ := a.obj
    have tail : ∀ h' tk' od', At h₀ h' x C L ((f, v) :: r) od' → h'.Ns L m → wpAny (model prog w) A (execs sts env) P E ⟨h', g, d, tk', os⟩ := fun h' tk' od' a' hn' => by
      refine ih h' tk' ((f, v) :: r) od' (fun f' hf' => hf f' (List.mem_cons_of_mem _ hf')) X hn' a' (by simp only [List.length_cons] at hl ⊢; omega) fun h2 tk2 od2 a2 => q h2 tk2 od2 ?_
      rw [List.map_cons, List.reverse_cons, List.append_assoc, f4]
      exact a2
    cases od with
    | none =>
      have er : r = [] := a.dict
      subst er
      refine set_plain Xh (ox := { cls := .ref C, dict := none, data := .fields #[.ref t1, .none, .none, .none, .bool false, .none] }) (od := none) ⟨ho, rfl, rfl, trivial⟩ sa ?_
      refine exc_osa Xh ho hcl hm hh f1 (fun h' tk' dx k dn dne hx hns => ?_)
      refine tail h' _ (some dx) ⟨fun b o hb e => k b o hb (a.keep b o hb e), ⟨t1, hx⟩, ?_⟩ ?_
      · refine ⟨?_, Nat.lt_of_lt_of_le hn.lt dn, dne, ?_, by simp⟩
        · exact Nat.le_trans hL0 (Nat.le_trans (Nat.le_of_lt hn.lt) dn)
        · have e : mapOf [(f, v)] = fun y => if y = f then some v else none := by funext y; rfl
          rw [e]; exact hns
      · obtain ⟨o, es, ep, e1, e2⟩ := hn
        exact ⟨o, es, ep, k _ _ hxL e1, e2⟩
    | some dx =>
      obtain ⟨d1, d2, d3, d4, d5⟩ := a.dict
      obtain ⟨oD, _, _, hoD, _, _⟩ := d4.count (mapOf_within r)
      refine set_plain Xh (ox := { cls := .ref C, dict := some dx, data := .fields #[.ref t1, .none, .none, .none, .bool false, .none] }) (od := some oD) ⟨ho, rfl, rfl, hoD⟩ sa ?_
      refine PySem.OEX.osa_old Xh ho d4 (mapOf_within r) (by rw [List.length_map]; omega) hcl hm hh f1 (fun h' tk' k hns => ?_)
      refine tail h' _ (some dx) ⟨fun b o hb e => k b o ?_ (a.keep b o hb e), ⟨t1, k _ _ d3.symm ho⟩, d1, d2, d3, ?_, by simp⟩ ?_
      · exact Nat.ne_of_lt (Nat.lt_of_lt_of_le (Heap.lt_size e) d1)
      · have e : mapOf ((f, v) :: r) = fun y => if y = f then some v else mapOf r y := by funext y; rfl
        rw [e]; exact hns
      · obtain ⟨o, es, ep, e1, e2⟩ := hn
        exact ⟨o, es, ep, k _ _ (Nat.ne_of_lt d2) e1, e2⟩
end
end DX

set_option Elab.async false
set_option linter.all false
set_option maxRecDepth 100000
set_option maxHeartbeats 4000000
namespace DX
open PySem PySem.W PySem.Calls PyProof.Rows PySem.HandSPX
section
variable {prog : Program} {w : World} {A : Around} {E : Value → Shared → Prop} {R : Result → Shared → Prop} {K : Frag} {mg mb : Str → Option Value} {x₀ : Str} {C fI x t0 : Addr} {fs : List Str}
theorem lookup_rev_zip : ∀ {ns : List Str} {vs : List Value} {n : Str} {v : Value}, ns.Nodup → (n, v) ∈ ns.zip vs → (ns.zip vs).reverse.lookup n = some v := fun {ns vs n v} nd h => by
  have key : ∀ {l : List (Str × Value)}, (l.map (·.1)).Nodup → (n, v) ∈ l → l.lookup n = some v := by
    intro l
    induction l with
    | nil => intro _ h; simp at h
    | cons p l ih =>
      intro nd h
      obtain ⟨n', v'⟩ := p
      rw [List.map_cons, List.nodup_cons] at nd
      rcases List.mem_cons.mp h with e | h
      · cases e
        simp [List.lookup]
      · have ne : n ≠ n' := fun e => nd.1 (by rw [← e]; exact List.mem_map_of_mem (f := (·.1)) h)
        have q : (n == n') = false := by simpa using ne
        simp only [List.lookup, q]
        exact ih nd.2 h
  refine key ?_ (List.mem_reverse.mpr h)
  rw [List.map_reverse]
  have e : (ns.zip vs).map (·.1) = ns.take vs.length := by
    clear h key
    induction ns generalizing vs with
    | nil => simp
    | cons a ns ih => cases vs with
      | nil => simp
      | cons b vs => simp [ih (List.nodup_cons.mp nd).2]
  rw [e]
  exact (List.reverse_perm _).nodup_iff.mpr (nd.sublist (List.take_sublist _ _))
theorem sup_init {h : Heap} {g : Array GenState} {d : Drawn} {tk : Nat} {os : OsState} {vs : List Value} (T : Txt prog K mg x₀ C fI fs) (X : K.In h) (hlim : h.NoLimit) (hng : h.Ns mainGlobals mg) (hnb : h.Ns builtinsNs mb) (hbb : ∀ y : Str, y ≠ "__name__" → mb y = bootBuiltins y)
    (hx : h.get? x = some (excO C t0)) (hnx : ∀ o, K.lookup x ≠ some o) (hroom : A.depth < recursionLimit) (hv : vs.length = fs.length) (hfew : fs.length ≤ 800)
    (hq : ∀ h' tk' od', At h h' x C h.objs.size ((fs.zip vs).reverse) od' → R (.ok (.ret .none)) ⟨h', g, d, tk', os⟩) :
    codeAny (model prog w) A (.call (.ref fI) ⟨.ref x :: vs, []⟩) R ⟨h, g, d, tk, os⟩ := by
  obtain ⟨oc, ccl, cl, doc, pm, ct, od, an, cdd, cld, osl, ccs, csl, cda, cc, qual, params, body, scope, vv, file, tf, hf, hcd, S, hb, hcode, hvs, hfile, hcell⟩ := T.fn
  obtain ⟨nm, q, N, bs, bm, sn, sub, ab, col, dd, k0, k1, k2, k3, k5, hC, hbm⟩ := T.cls
  have hcl : clsIn K C = some { name := nm, bases := bs, mro := .ref C :: bm, ns := N, qualname := q, hasDict := true, slotNames := sn, subclasses := sub, abstract := ab, collection := col, hasDel := false } := by unfold clsIn; rw [hC] <;> rfl
  obtain ⟨ar, har, ear⟩ := S.arg
  have hlen : ((("self" : Str) :: fs).zip (Value.ref x :: vs)).length = fs.length + 1 := by simp [hv]
  have inx : ∀ f ∈ fs, ∃ v, (f, v) ∈ (("self" : Str) :: fs).zip (Value.ref x :: vs) := fun f hf => by
    obtain ⟨i, hi, e⟩ := List.mem_iff_getElem.mp hf
    refine ⟨vs[i], List.mem_iff_getElem.mpr ⟨i + 1, by simp [hv]; omega, ?_⟩⟩
    simp [e]
  refine ks_codeAny_call_defAt (fd := ksFn "__init__" qual params body scope .none .none doc pm an (.ref cda) ct cc) (body := body) (binds := (("self" : Str) :: fs).zip (.ref x :: vs)) hroom (X _ _ hf) rfl hlim (codeRec_of X hcd) rfl
    (hb _ _ (by simp [hv])) S.cell (fun y hy => ?_) (fun h₁ hns hk₁ => ?_) S.co S.gen S.kind
  · have z := (List.of_mem_zip hy).1
    rcases List.mem_cons.mp z with e | e
    · rw [e]; exact S.ka
    · exact (S.kf _ e).1
  have X₁ : K.In h₁ := fun b o e => hk₁ b o (X b o e)
  have hx₁ := hk₁ _ _ hx
  have hxL : h.objs.size ≠ x := Nat.ne_of_gt (Heap.lt_size hx)
  have hself : ((("self" : Str) :: fs).zip (Value.ref x :: vs)).reverse.lookup ("self" : Str) = some (Value.ref x) := lookup_rev_zip S.nd (by simp)
  obtain ⟨p0, p1, p2, p3, p4, p5, mm, jj, rest, rfl, hasg, hline⟩ := S.body
  show _root_.PySem.wpAt (model prog w) _ (.func _ (ksEnv qual scope h.objs.size fI (.ref cda) cc)) (execs _ (ksEnv qual scope h.objs.size fI (.ref cda) cc)) _ _ _
  have he : ∀ env : Env, eval (.Call (.Attribute (.Call (.Name "super" p0) [] [] p1) "__init__" p2) [.Constant (.str mm) jj p5] [] p3) env = (do
      let ov ← attributeBase (.Call (.Name "super" p0) [] [] p1) "__init__" env (eval (.Call (.Name "super" p0) [] [] p1) env)
      standAt p2.atName
      let (f, first) ← holding [ov] (getMethod ov "__init__" (do return (← importBound (.Call (.Name "super" p0) [] [] p1) env).getD true))
      callWith p3 f first (backTo p3 (starEach [Expr.Constant (.str mm) jj p5] env)) []) := fun env => by
    have hpos : ∀ o : Expr, methodCallPos true o env p2 p3 = pure p3 := fun o => by unfold methodCallPos; simp [hline]
    show (do
      let ov ← attributeBase (.Call (.Name "super" p0) [] [] p1) "__init__" env (eval (.Call (.Name "super" p0) [] [] p1) env)
      standAt p2.atName
      methodCall (.Call (.Name "super" p0) [] [] p1) "__init__" p2 p3 env ov 1 (backTo p3 (starEach [Expr.Constant (.str mm) jj p5] env)) []) = _
    refine bind_congr fun ov => bind_congr fun _ => ?_
    unfold methodCall
    refine bind_congr fun z => ?_
    obtain ⟨f, first⟩ := z
    show (do
      let callPos ← methodCallPos true _ env p2 p3
      callWith callPos f first _ _) = _
    rw [hpos]
    rfl
  refine ks_wpAt_execs_cons (ks_wpAt_Expr_any (ks_wpAt_MethodCall ?_ (he _)) (by unfold interactive; simp only [ksEnv]; rw [S.kind]; rfl) (by first | rfl | (unfold swapsWith; rfl)))
  have Cx : ∃ o, h₁.get? C = some o ∧ o.data = .cls { name := nm, bases := bs, mro := .ref C :: bm, ns := N, qualname := q, hasDict := true, slotNames := sn, subclasses := sub, abstract := ab, collection := col, hasDel := false } := ⟨_, X₁ _ _ hC, rfl⟩
  obtain ⟨oD, hD1, hD2⟩ := Cx
  have nsg : h₁.Ns mainGlobals mg := by
    obtain ⟨o, es, ep, e1, e2⟩ := hng
    exact ⟨o, es, ep, hk₁ _ _ e1, e2⟩
  have nsb : h₁.Ns builtinsNs mb := by
    obtain ⟨o, es, ep, e1, e2⟩ := hnb
    exact ⟨o, es, ep, hk₁ _ _ e1, e2⟩
  refine ks_wpAt_super_base (env := ksEnv qual scope h.objs.size fI (.ref cda) cc) S.ks S.kc (by decide) rfl (X₁ _ _ hf) rfl har rfl (X₁ _ _ hcode) rfl hvs hfile T.top ?_
  refine ks_loadName_global S.kind S.ks (loadGlobal_builtin (env := ksEnv qual scope h.objs.size fI (.ref cda) cc) nsg (mg_none_of X hng T.hsuper) nsb ((hbb _ (by decide +kernel)).trans (by first | boot_by_name | rfl | kernel_rfl)) ⟨rfl, ?_⟩)
  refine wpAny_loadName_free S.kind S.kc rfl ⟨_, X₁ _ _ hcell, rfl⟩ ?_
  rw [ear]
  refine wpAny_loadName_local S.kind S.ka hns hself ?_
  refine ks_wpAny_isType_cls hD1 hD2 ⟨rfl, ?_⟩
  refine ks_wpAny_call_super hD1 hD2 hx₁ rfl (fun c e => by cases e) (looks_mroIn X₁ T.hsub) (fun h₂ hso hk₂ => ?_)
  have X₂ : K.In h₂ := fun b o e => hk₂ b o (X₁ b o e)
  have hx₂ := hk₂ _ _ hx₁
  have I₂ : InstAt h₂ x (excO C t0) C none := ⟨hx₂, rfl, rfl, trivial⟩
  have hI : Looks (model prog w) h₂ (isInstance (.ref x) (.type "ValueError")) true := I₂.type.andThen (looks_subIn X₂ T.veC)
  have hsup : alongIn K "__init__" (((Value.ref C :: bm).dropWhile (· != .ref C)).drop 1) = some (some (.builtin "ValueError.__init__")) := by
    have z := T.sup
    unfold ks_superIn at z
    rw [hcl] at z
    exact z
  refine kxs_getMethod kxs_ValueError hso (looks_opaque X₂ T.any) (l₀ := .ref C :: bm) (fun A Q E s k q => wpAny_bind ((looks_clsIn X₂ hcl) A _ E s k (wpAny_pure q))) rfl X₂ hsup hI (ks_ne X₂ I₂ hcl) (by decide) ?_
  -- super().__init__ called with its text
  have hu : (h₂.push (kxs_mw "ValueError.__init__" x)).get? h₂.objs.size = some (kxs_mw "ValueError.__init__" x) := Heap.get?_push_size _ rfl
  have keep₃ : ∀ b o, h₂.get? b = some o → (h₂.push (kxs_mw "ValueError.__init__" x)).get? b = some o := fun b o e => Heap.get?_push_of_some _ e
  refine kxs_callWith (i := "ValueError.__init__") (x := x) rfl (evalArgs_plain (Calls.spliced_cons (Calls.Constant_str (k := jj) (pos := p5) (Calls.spliced_nil ⟨hu, ?_⟩))))
  have hx₃ := keep₃ _ _ hx₂
  have X₃ : K.In (h₂.push (kxs_mw "ValueError.__init__" x)) := fun b o e => keep₃ b o (X₂ b o e)
  refine wpAny_call (codeAny_of_tree ?_)
  show wpAny _ _ (callAny (.ref h₂.objs.size) ⟨_, []⟩) _ _ _
  simp only [callAny]
  refine wpAny_bind (wpAny_load hu ?_)
  simp only [kxs_mw, show (Value.type "method-wrapper" == Value.type "method" || Value.type "method-wrapper" == Value.type "builtin_function_or_method" || Value.type "method-wrapper" == Value.type "method-wrapper") = true by decide, if_true]
  refine KFB.if_so (by decide) ?_
  refine wpAny_bind (check_bound_init F.excBase_ValueError.toExcCallFacts (X₃ _ _ hC) hx₃ rfl ?_)
  refine wpAny_bind (wpAny_pure (wpAny_pure ?_))
  refine ⟨plainId_quiet F.excBase_ValueError.init.plain _, codeAny_builtin F.excBase_ValueError.initEntry ?_⟩
  refine exc_init_tree (cls := .ref C) (t0 := t0) (dv := none) (c2 := .none) (c3 := .none) (b4 := .bool false) hx₃ (by rw [sizeLine_eq]; show 1 ≤ _; omega) fun h₄ hk₄ hx₄ _ => ?_
  -- the fields
  have all : ∀ b o, b ≠ x → h.get? b = some o → h₄.get? b = some o := fun b o hb e => hk₄ b o hb (keep₃ b o (hk₂ b o (hk₁ b o e)))
  have hns₄ : h₄.Ns h.objs.size fun y => ((("self" : Str) :: fs).zip (Value.ref x :: vs)).reverse.lookup y := by
    obtain ⟨o, es, ep, e1, e2⟩ := hns
    exact ⟨o, es, ep, hk₄ _ _ hxL (keep₃ _ _ (hk₂ _ _ e1)), e2⟩
  refine wpAt_of_wpAny (asg_run (C := C) (x := x) (L := h.objs.size) (h₀ := h) (m := fun y => ((("self" : Str) :: fs).zip (Value.ref x :: vs)).reverse.lookup y) (env := ksEnv qual scope h.objs.size fI (.ref cda) cc) hcl (show refsVE (.ref C :: bm) = true from hbm) rfl T.sa S.kind rfl (Nat.le_refl _) hxL hself S.ka hnx hasg h₄ _ [] none
    (fun f hf => ⟨T.noN f hf, (S.kf f hf).1, (S.kf f hf).2, by obtain ⟨v, hv⟩ := inx f hf; exact ⟨v, lookup_rev_zip S.nd hv⟩⟩) X hns₄ ⟨all, ⟨_, hx₄⟩, rfl⟩ (by simp; omega) fun h' tk' od' a => ?_)
  refine hq h' tk' od' ?_
  have e : (fs.map fun f => (f, (((("self" : Str) :: fs).zip (Value.ref x :: vs)).reverse.lookup f).getD .none)) = fs.zip vs := by
    refine List.ext_getElem (by simp [hv]) fun i h1 h2 => ?_
    have hi : i < fs.length := by simpa using h1
    rw [List.getElem_map, List.getElem_zip, lookup_rev_zip (v := vs[i]) S.nd]
    · rfl
    · exact List.mem_iff_getElem.mpr ⟨i + 1, by simp [hv]; omega, by simp⟩
  rw [e, List.append_nil] at a
  exact a
end
end DX

set_option Elab.async false
set_option linter.all false
set_option maxRecDepth 100000
set_option maxHeartbeats 4000000
namespace DX
open PySem PySem.W PySem.Calls PyProof.Rows PySem.HandSPX
theorem mapOf_look : ∀ (r : List (Str × Value)) (y : Str), mapOf r y = r.lookup y
  | [], y => rfl
  | (f, v) :: r, y => by
    unfold mapOf
    by_cases e : y = f
    · subst e
      rw [if_pos rfl]
      simp [List.lookup]
    · rw [if_neg e]
      have q : (y == f) = false := by simpa using e
      simp only [List.lookup, q]
      exact mapOf_look r y
theorem lookup_none {α : Type} : ∀ {l : List (Str × α)} {n : Str}, n ∉ l.map (·.1) → l.lookup n = none
  | [], _, _ => rfl
  | (f, v) :: l, n, h => by
    rw [List.map_cons, List.mem_cons, not_or] at h
    have q : (n == f) = false := by simpa using h.1
    simp only [List.lookup, q]
    exact lookup_none h.2
/-- a made exception of the class -/
structure Made (h h' : Heap) (e C : Addr) (fs : List Str) (vs : List Value) (od : Option Addr) : Prop where
  keep : ∀ b o, h.get? b = some o → h'.get? b = some o
  new : h.objs.size ≤ e
  obj : ∃ oe ws, h'.get? e = some oe ∧ oe.cls = .ref C ∧ oe.dict = od ∧ oe.data = .fields ws ∧ ws[1]? = some .none
  dict : match od with
    | none => fs = []
    | some d => h.objs.size ≤ d ∧ d ≠ e ∧ h'.Ns1 d (mapOf (fs.zip vs).reverse) ∧ fs ≠ []
section
variable {prog : Program} {w : World} {A : Around} {R : Result → Shared → Prop} {K : Frag} {mg mb : Str → Option Value} {x₀ : Str} {C fI : Addr} {fs : List Str}
theorem sup_made {h : Heap} {g : Array GenState} {d : Drawn} {tk : Nat} {os : OsState} {vs : List Value} (T : Txt prog K mg x₀ C fI fs) (X : K.In h) (hlim : h.NoLimit) (hng : h.Ns mainGlobals mg) (hnb : h.Ns builtinsNs mb) (hbb : ∀ y : Str, y ≠ "__name__" → mb y = bootBuiltins y)
    (hroom : A.depth + 1 < recursionLimit) (hv : vs.length = fs.length) (hfew : fs.length ≤ 800)
    (hq : ∀ h' tk' e od, Made h h' e C fs vs od → R (.ok (.ret (.ref e))) ⟨h', g, d, tk', os⟩) :
    codeAny (model prog w) A (.call (.ref C) ⟨vs, []⟩) R ⟨h, g, d, tk, os⟩ := by
  obtain ⟨nm, q, N, bs, bm, sn, sub, ab, col, dd, k0, k1, k2, k3, k5, hC, hbm⟩ := T.cls
  have k : ∀ b o, h.get? b = some o → ((h.push (kdv_tup vs)).push (excO C h.objs.size)).get? b = some o := fun b o e => Heap.get?_push_of_some _ (Heap.get?_push_of_some _ e)
  have hget : ((h.push (kdv_tup vs)).push (excO C h.objs.size)).get? (h.objs.size + 1) = some (excO C h.objs.size) := by heap_get
  have hnx : ∀ o, K.lookup (h.objs.size + 1) ≠ some o := fun o e => by
    have z : h.get? (h.objs.size + 1) = some o := X _ _ e
    exact absurd (Nat.lt_of_succ_lt (Heap.lt_size z)) (Nat.lt_irrefl _)
  refine call_own F.excBase_ValueError (fun X => refsVE_contains X bm hbm) (X _ _ hC) (looks_findIn X T.iC) (fun self => bind_fn X self T.tC) (by rw [sizeLine_eq, hv]; omega) ?_
  refine sup_init (h := (h.push (kdv_tup vs)).push (excO C h.objs.size)) T (fun b o e => k b o (X b o e)) (hlim.keeps k) (hng.keeps k) (hnb.keeps k) hbb hget hnx ?_ hv hfew fun h' tk' od' a => ?_
  · show A.depth + 1 < recursionLimit
    exact hroom
  · have old : ∀ b o, h.get? b = some o → h'.get? b = some o := fun b o e => a.keep b o (Nat.ne_of_lt (Nat.lt_succ_of_lt (Heap.lt_size e))) (k b o e)
    have sz : ((h.push (kdv_tup vs)).push (excO C h.objs.size)).objs.size = h.objs.size + 1 + 1 := by rw [Heap.size_push, Heap.size_push]
    obtain ⟨t1, ho⟩ := a.obj
    refine ⟨rfl, hq h' tk' (h.objs.size + 1) od' ⟨old, Nat.le_succ _, ⟨_, _, ho, rfl, rfl, rfl, rfl⟩, ?_⟩⟩
    have z := a.dict
    cases od' with
    | none =>
      have z : (fs.zip vs).reverse = [] := z
      have z : fs.zip vs = [] := by simpa using z
      have zl : (fs.zip vs).length = 0 := by rw [z]; rfl
      rw [List.length_zip, hv, Nat.min_self] at zl
      exact List.length_eq_zero_iff.mp zl
    | some dx =>
      obtain ⟨z1, z2, z3, z4, z5⟩ := z
      rw [sz] at z1
      exact ⟨by omega, z3, z4, fun e => z5 (by rw [e]; rfl)⟩
end
end DX
namespace L2
open PySem PySem.Spec PyProof.Rows DX
theorem relO_zip : ∀ {fs : List Str} {vs : List V} {us : List Value}, Vals vs us → ∀ f, RelO ((fs.zip vs).lookup f) ((fs.zip us).lookup f)
  | [], _, _, _, _ => trivial
  | _ :: _, [], [], _, _ => trivial
  | n :: fs, v :: vs, u :: us, .cons r1 r2, f => by
    by_cases e : f = n
    · subst e
      simp only [List.zip_cons_cons, List.lookup, beq_self_eq_true]
      exact r1
    · have q : (f == n) = false := by simpa using e
      simp only [List.zip_cons_cons, List.lookup, q]
      exact relO_zip r2 f
theorem relO_rev {fs : List Str} {vs : List V} {us : List Value} (nd : fs.Nodup) (r : Vals vs us) (f : Str) : RelO ((fs.zip vs).lookup f) (DX.mapOf (fs.zip us).reverse f) := by
  have e : DX.mapOf (fs.zip us).reverse f = (fs.zip us).lookup f := by
    rw [DX.mapOf_look]
    cases h : (fs.zip us).lookup f with
    | some v =>
      exact lookup_rev_zip nd (PySem.mem_of_lookup h)
    | none =>
      refine lookup_none fun z => ?_
      rw [List.map_reverse, List.mem_reverse] at z
      have key : ∀ {l : List (Str × Value)}, f ∈ l.map (·.1) → l.lookup f ≠ none := by
        intro l
        induction l with
        | nil => intro z; simp at z
        | cons p l ih =>
          intro z
          obtain ⟨n, v⟩ := p
          by_cases e : f = n
          · subst e
            simp [List.lookup]
          · have q : (f == n) = false := by simpa using e
            simp only [List.lookup, q]
            rw [List.map_cons, List.mem_cons] at z
            exact ih (z.resolve_left e)
      exact key z h
  rw [e]
  exact relO_zip r f
section
variable {X : Cx} {C fI : Addr}
/-- what is wanted of a made exception -/
def XQ (C : Addr) (vs : List V) (Q : XK) (H1 : Hp) : List Str → Prop
  | [] => Q (.ref C) none H1
  | f :: fs => ∀ d, H1 d = none → Q (.ref C) (some d) (upd H1 d (.xd ((f :: fs).zip vs)))
/-- C(args) -/
def tXMk (C : Addr) (fs : List Str) (ta : TA) : St → Hp → XK → Prop := fun σ H Q => ta σ H fun vs H1 => vs.length = fs.length ∧ XQ C vs Q H1 fs
theorem made_mk {fs : List Str} {pins : List (Addr × Obj)} {σ : L2.St} {H1 : Hp} {Q : XK} {vs : List V} {us : List Value} {x : Str} {s1 : Shared} {k : Nat} (T : Txt X.prog X.K X.mg x C fI fs) (nd : fs.Nodup) (hfew : fs.length ≤ 800) (hr : Room k X.A) (I1 : Inv X pins σ H1 s1) (r1 : Vals vs us) (hl : vs.length = fs.length)
    (q1 : XQ C vs Q H1 fs) :
    wpAny (model X.prog X.w) X.A (call (.ref C) us) (MkP X pins σ Q) X.xe s1 := by
  have hlim := I1.nolimit
  have hgl := I1.ok.mod.glob.keeps I1.bk
  obtain ⟨mb, hb1, hb2⟩ := I1.ok.mod.blt
  have hbl := hb1.keeps I1.bk
  have KI := I1.kIn
  obtain ⟨hp, g, dr, tk, os⟩ := s1
  have hul : us.length = fs.length := by rw [← hl]; exact r1.length.symm
  refine wpAny_call (sup_made T KI hlim hgl hbl hb2 (by have := hr.dp; omega) hul hfew fun h' tk' e od M => ?_)
  show MkP X pins σ Q (.ref e) ⟨h', g, dr, tk', os⟩
  obtain ⟨oe, fv, hoe, hc, hd, hdat, h1⟩ := M.obj
  obtain ⟨G', g1, g2⟩ := restrict h' fun b => decide (b ≠ e)
  have gk : ∀ b, b ≠ e → G'.get? b = h'.get? b := fun b hb => g1 b (decide_eq_true hb)
  have ge : G'.get? e = none := g2 e (by simp)
  have old : ∀ b o, hp.get? b = some o → G'.get? b = some o := fun b o q => (gk b (Nat.ne_of_lt (Nat.lt_of_lt_of_le (Heap.lt_size q) M.new))).trans (M.keep b o q)
  have back : ∀ b o, G'.get? b = some o → h'.get? b = some o := fun b o q => by
    by_cases hb : b = e
    · rw [hb, ge] at q; cases q
    · exact (gk b hb).symm.trans q
  have rz : Raises X (.ref C) := raises_own T.xf.exC T.tyC
  have M4 := M.dict
  cases od with
  | none =>
    have M4 : fs = [] := M4
    subst M4
    have J : Inv X pins σ H1 ⟨G', g, dr, tk', os⟩ := I1.kept (t' := tk') old
    exact ⟨e, oe, fv, ⟨G', g, dr, tk', os⟩, _, .ref C, none, rfl, J, back, ge, hoe, ⟨hc, hd⟩, hdat, h1, I1.hok.fresh M.new, rfl, I1.bare, rz, q1⟩
  | some d =>
    obtain ⟨d1, d2, d3, d4⟩ := M4
    have q2 : ∀ d, H1 d = none → Q (.ref C) (some d) (upd H1 d (.xd (fs.zip vs))) := by
      cases fs with
      | nil => exact absurd rfl d4
      | cons f fs => exact q1
    have ob : ObjOk X.prog X.w (upd H1 d (.xd (fs.zip vs))) G' d (.xd (fs.zip vs)) :=
      ⟨_, d3.at (fun o q => (gk d d2).trans q), fun f => relO_rev nd r1 f⟩
    have J : Inv X pins σ (upd H1 d (.xd (fs.zip vs))) ⟨G', g, dr, tk', os⟩ := I1.laid (t' := tk') old d1 ob
    refine ⟨e, oe, fv, ⟨G', g, dr, tk', os⟩, _, .ref C, some d, rfl, J, back, ge, hoe, ⟨hc, hd⟩, hdat, h1, ?_, rfl, I1.bare, rz, q2 d (I1.hok.fresh d1)⟩
    rw [upd_ne (Ne.symm d2)]
    exact I1.hok.fresh M.new
theorem pmk_x {fs : List Str} {a : Expr} {es : List Expr} {ta : TA} {x : Str} {p pos : Pos} {k : Nat} (T : Txt X.prog X.K X.mg x C fI fs) (nd : fs.Nodup) (hfew : fs.length ≤ 800) (hr : Room k X.A) (ha : PA X (a :: es) ta) (hg : Gl X x := by rfl) (hdb : (x == ("__debug__" : Str)) = false := by decide)
    (he : starEach (a :: es) X.env = (false, eval a X.env) :: starEach es X.env := by rfl) (hpl : (backTo pos (starEach es X.env)).any (·.1) = false := by rfl) :
    PMk X (.Call (.Name x p) (a :: es) [] pos) (tXMk C fs ta) := by
  intro pins s σ H Q I h
  refine wpAny_Call_Name_kw (ld_glob I hg T.gC ?_ hdb)
  refine PySem.W.callWith_K (h₀ := X.base) I.ok.mod.kin T.kC (thn (ha.run pos pins s σ H _ I h) fun us s1 hh => ?_) he hpl
  obtain ⟨vs, H1, I1, r1, hl, q1⟩ := hh
  exact ⟨I1.kIn, made_mk T nd hfew hr I1 r1 hl q1⟩
theorem pmk_x0 {x : Str} {p pos : Pos} {k : Nat} (T : Txt X.prog X.K X.mg x C fI []) (hr : Room k X.A) (hg : Gl X x := by rfl) (hdb : (x == ("__debug__" : Str)) = false := by decide) :
    PMk X (.Call (.Name x p) [] [] pos) (tXMk C [] tNil) := by
  intro pins s σ H Q I h
  refine wpAny_Call_Name_kw (ld_glob I hg T.gC ?_ hdb)
  obtain ⟨hl, q1⟩ := h
  refine PySem.W.callWith_K0 I.kIn T.kC ?_
  exact made_mk (fs := []) (vs := []) (us := []) T List.nodup_nil (by decide) hr I .nil rfl q1
end
end L2

set_option Elab.async false
set_option linter.all false
set_option maxRecDepth 100000
set_option maxHeartbeats 4000000
/-! a try with several clauses, each with or without a name -/
namespace DX
open PySem PySem.Spec PyProof.Rows L2
/-- a clause: its class, its name's slot, its suite -/
abbrev HC := Value × Option Nat × (Addr → Value → Option Addr → TS)
/-- the ends behind a suite whose name goes -/
def gone (i : Nat) (D : Ends) : Ends := { nx := fun σ' H' => D.nx (σ'.set i none) H', rt := D.rt, bk := fun σ' H' => D.bk (σ'.set i none) H', ct := fun σ' H' => D.ct (σ'.set i none) H' }
def inSuite (D : Ends) (ts : Addr → Value → Option Addr → TS) (a : Addr) (cls : Value) (d : Option Addr) (σ : L2.St) (H : Hp) : Option Nat → Prop
  | none => ts a cls d D σ H
  | some i => ts a cls d (gone i D) (σ.set i (some (.ref a))) H
def wMix (K : PySem.W.Frag) (Wout : WX) (D : Ends) : List HC → WX
  | [] => Wout
  | (c, oi, ts) :: r => fun cls d σ H => ∃ b, PySem.W.exmOne K cls c = some b ∧ (b = true → ∀ a, H a = none → inSuite D ts a cls d σ H oi) ∧ (b = false → wMix K Wout D r cls d σ H)
inductive Hds (X : Cx) : List ExceptHandler → List HC → Prop
  | nil : Hds X [] []
  | plain {x : Str} {c : Value} {ts : Addr → Value → Option Addr → TS} {b₀ : Stmt} {suite : List Stmt} {np pos' : Pos} {hds : List ExceptHandler} {l : List HC} (hc : Names X x c)
      (hsu : ∀ (a : Addr) (oe : Obj) (cls : Value) (d : Option Addr) (pn : List (Addr × Obj)), Zc cls d oe → (∃ vs, oe.data = .fields vs) → PSs (X.suite a ((a, oe) :: pn)) (b₀ :: suite) (ts a cls d)) (r : Hds X hds l) :
      Hds X (.ExceptHandler (some (.Name x np)) none (b₀ :: suite) pos' :: hds) ((c, none, ts) :: l)
  | named {x n : Str} {i : Nat} {c : Value} {ts : Addr → Value → Option Addr → TS} {b₀ : Stmt} {suite : List Stmt} {np pos' : Pos} {hds : List ExceptHandler} {l : List HC} (hc : Names X x c) (hN : X.N.Nodup) (hi : X.N[i]? = some n) (hln : X.env.kindOf n = some .local)
      (hsu : ∀ (a : Addr) (oe : Obj) (cls : Value) (d : Option Addr) (pn : List (Addr × Obj)), Zc cls d oe → (∃ vs, oe.data = .fields vs) → PSs (X.suite a ((a, oe) :: pn)) (b₀ :: suite) (ts a cls d)) (r : Hds X hds l) :
      Hds X (.ExceptHandler (some (.Name x np)) (some n) (b₀ :: suite) pos' :: hds) ((c, some i, ts) :: l)
section
variable {X : Cx} {body : List Stmt} {h₀ : ExceptHandler} {hds : List ExceptHandler} {l : List HC} {pos : Pos} {tb : WX → TS} {Wout : WX}
theorem ps_try_mix (hs : X.stack = X.env :: X.outer) (hf : X.env.frame = some X.env.locals) (tk : Takes X Wout)
    (hb : ∀ (W : WX) (pn : List (Addr × Obj)) (xe : Value → Shared → Prop), Takes (X.tr pn xe) W → PassesOwn (model X.prog X.w) X.A X.env xe → PSs (X.tr pn xe) body (tb W))
    (hh : Hds X (h₀ :: hds) l) : PS X (.Try body (h₀ :: hds) [] [] pos) (fun D σ H => tb (wMix X.K Wout D l) D σ H) := by
  refine ⟨fun pins s σ H D I h => ?_⟩
  have ok := I.ok
  have hfr : X.A.frames = some (X.env :: X.outer) := by rw [ok.frames, hs]
  refine wpAny_Try_except ?_
  refine wpAny_mono ((hb (wMix X.K Wout D l) (X.pn ++ pins) (fun e s₁ => wpAny (model X.prog X.w) X.A (noteFrame e X.env) (fun _ s₂ => wpAny (model X.prog X.w) X.A (setFlight e none) (fun _ s₃ =>
    wpAny (model X.prog X.w) X.A (handleBy e X.env (h₀ :: hds)) (SP X pins D) X.xe s₃) X.xe s₂) X.xe s₁) (fun u s' xx => ?_) PassesOwn.looking).run [] s σ H D (I.toTry _) h) (fun f s1 hsp => ?_) (fun e s1 he => he)
  · obtain ⟨a, B, sI, pins', σ', H', cls, d, rfl, J', nb, up, sky, na, os, ag, w⟩ := xx
    have J : Inv X pins σ' H' sI := J'.ofTry ok
    have sky' : Sky B (X.env :: X.outer) a (Zc cls d) X.env.locals s'.heap := by rw [← hs]; exact sky
    show wpAny (model X.prog X.w) X.A (noteFrame (.ref a) X.env) _ _ _
    refine Sky.land Zc.steady hfr hf sky' fun h3 fl3 up3 => ?_
    have J3 : Inv X pins σ' H' { s' with heap := h3 } := J.landed nb fl3.1 (up.trans up3) os ag
    obtain ⟨oe3, vs3, he3, hz3, hd3⟩ := fl3.there
    have nfr : a ∉ frs (X.env :: X.outer) := fun hm => by
      obtain ⟨_, o', e', hnf⟩ := fl3.2.2.1.mem hm
      rw [he3] at e'; cases e'
      exact hnf _ hd3
    have nL : a ≠ X.env.locals := fun z => nfr (List.mem_filterMap.mpr ⟨X.env, List.mem_cons_self, by rw [hf, z]⟩)
    have nF : a ∉ X.fs := fun hm => by
      obtain ⟨e, he, q⟩ := List.mem_filterMap.mp hm
      exact nfr (List.mem_filterMap.mpr ⟨e, List.mem_cons_of_mem _ he, q⟩)
    have S3 := J3.suite he3 hd3 na nL nF
    have LT : PySem.W.Looks (model X.prog X.w) h3 (typeOf (.ref a)) cls := fun A Q E s k q => wpAny_typeOf_ref (k _ _ he3) (by rw [hz3.1]; exact q)
    -- a clause's class, looked up in the suite's context
    have test : ∀ {x : Str} {c : Value} {np : Pos} (_ : Names X x c) {Q : Value → Shared → Prop} {E : Value → Shared → Prop}, Q c { s' with heap := h3 } → wpAny (model X.prog X.w) (X.A.mark (some (.ref a))) (eval (.Name x np) X.env) Q E { s' with heap := h3 } := fun {x c np} hc {Q E} q => by
      obtain ⟨hg, hdbg, hm | ⟨hm, hv, hnn⟩⟩ := hc
      · exact ld_glob (X := X.suite a ((a, oe3) :: (X.pn ++ pins))) S3 hg hm q hdbg
      · exact ld_blt (X := X.suite a ((a, oe3) :: (X.pn ++ pins))) S3 hg hm hv q hnn hdbg
    have go : ∀ {hds' : List ExceptHandler} {l' : List HC}, Hds X hds' l' → wMix X.K Wout D l' cls d σ' H' →
        wpAny (model X.prog X.w) X.A (handleBy (.ref a) X.env hds') (SP X pins D) X.xe { s' with heap := h3 } := by
      intro hds' l' hk
      induction hk with
      | nil =>
        intro w
        refine wpAny_handleBy_nil ?_
        obtain ⟨k1, k2, k3, oe, vs, T, oT, ts', he, hz, hd, h1, hr⟩ := id fl3
        unfold PySem.passOn
        refine wpAny_bind (wpAny_field he hd h1 ?_)
        rw [if_neg (show ¬ ((Value.ref T == Value.none) = true) from by simp)]
        have fin : wpAny (model X.prog X.w) X.A (setFlight (.ref a) X.env.frame) (fun _ s4 => wpAny (model X.prog X.w) X.A (throw (.ref a) : Sem Flow) (SP X pins D) X.xe s4) X.xe { s' with heap := h3 } := by
          rw [hf]
          refine HandSPX.setFlight_upZ fl3 fun h4 hh4 up4 => wpAny_throw (tk _ _ ?_)
          exact ⟨a, B, sI, pins, σ', H', cls, d, rfl, J, nb, (up.trans up3).trans up4, .inr (.inr (by rw [hs]; exact hh4)), na, os, ag, w⟩
        first
          | exact wpAny_bind (wpAny_pure (wpAny_bind fin))
          | exact wpAny_bind fin
      | @plain x c ts b₀ suite np pos' hds2 l2 hc hsu r ih =>
        rintro ⟨b, hb1, hyes, hno⟩
        refine wpAny_handleBy_cons (codeAny_handlers_test ?_) (by intro q; cases q)
        refine test hc ((PySem.W.exm_one (M := model X.prog X.w) (J3.kIn) LT hb1).here ?_)
        cases b with
        | false => exact ih (hno rfl)
        | true =>
          refine codeAny_handlers_suite ?_
          refine HandSPX.lands_againZ fl3 fun h4 fl4 up4 => ?_
          have J4 : Inv X pins σ' H' { s' with heap := h4 } := J.landed nb fl4.1 ((up.trans up3).trans up4) os ag
          obtain ⟨oe4, vs4, he4, hz4, hd4⟩ := fl4.there
          refine wpAny_mono ((hsu a oe4 cls d (X.pn ++ pins) hz4 ⟨_, hd4⟩).run [] _ _ H' _ (J4.suite he4 hd4 na nL nF) (hyes rfl a na)) (fun f s6 hsp => ?_) (fun _ _ z => False.elim z)
          cases f with
          | next | brk | cont => obtain ⟨σ6, H6, S6, q6⟩ := hsp; exact ⟨_, _, S6.unsuite ok, q6⟩
          | ret u => obtain ⟨v6, σ6, H6, S6, r6, q6⟩ := hsp; exact ⟨_, _, _, S6.unsuite ok, r6, q6⟩
      | @named x n i c ts b₀ suite np pos' hds2 l2 hc hN hi hln hsu r ih =>
        rintro ⟨b, hb1, hyes, hno⟩
        refine wpAny_handleBy_cons (codeAny_handlers_test ?_) (by intro q; cases q)
        refine test hc ((PySem.W.exm_one (M := model X.prog X.w) (J3.kIn) LT hb1).here ?_)
        cases b with
        | false => exact ih (hno rfl)
        | true =>
          refine codeAny_handlers_suite_as ?_
          refine HandSPX.lands_againZ fl3 fun h4 fl4 up4 => ?_
          have J4 : Inv X pins σ' H' { s' with heap := h4 } := J.landed nb fl4.1 ((up.trans up3).trans up4) os ag
          obtain ⟨oe4, vs4, he4, hz4, hd4⟩ := fl4.there
          refine store_ok (X := X.suite a ((a, oe4) :: (X.pn ++ pins))) (v := .ref a) (J4.suite he4 hd4 na nL nF) hN hi (.inl hln) rfl (fun s5 S5 => ?_) (.inr hln)
          refine wpAny_mono ((hsu a oe4 cls d (X.pn ++ pins) hz4 ⟨_, hd4⟩).run [] s5 _ H' _ S5 (hyes rfl a na)) (fun f s6 hsp => ?_) (fun _ _ z => False.elim z)
          have end_ : ∀ {σ6 : L2.St} {H6 : Hp} {Q : Shared → Prop}, Inv (X.suite a ((a, oe4) :: (X.pn ++ pins))) [] σ6 H6 s6 → (∀ s7, Inv X pins (σ6.set i none) H6 s7 → Q s7) →
              wpAny (model X.prog X.w) X.A (do bindName X.env n .none; unbindBehindTheSuite X.env n pos') (fun _ s7 => Q s7) X.xe s6 := fun {σ6 H6 Q} S6 hq => gone_ok (S6.unsuite ok) hN hi hln hq
          cases f with
          | next | brk | cont => obtain ⟨σ6, H6, S6, q6⟩ := hsp; exact end_ S6 fun s7 J7 => ⟨_, _, J7, q6⟩
          | ret u => obtain ⟨v6, σ6, H6, S6, r6, q6⟩ := hsp; exact end_ S6 fun s7 J7 => ⟨_, _, _, J7, r6, q6⟩
    exact go hh w
  · cases f with
    | next => obtain ⟨σ', H', J', q⟩ := hsp; exact wpAny_execs_nil ⟨σ', H', J'.ofTry ok, q⟩
    | brk | cont => obtain ⟨σ', H', J', q⟩ := hsp; exact ⟨σ', H', J'.ofTry ok, q⟩
    | ret u => obtain ⟨v, σ', H', J', r, q⟩ := hsp; exact ⟨v, σ', H', J'.ofTry ok, r, q⟩
end
end DX

set_option Elab.async false
set_option linter.all false
set_option maxRecDepth 100000
set_option maxHeartbeats 4000000
namespace DL
open PySem PySem.Spec PyProof.Rows L2 DX

/-! ### raise, try, by data -/
abbrev XD := Addr → List Str → List D → Prop
section
variable {c : Cn} {ς : Sta} {Φ : D → Sta → Prop} {Ψ : Psi}
/-- what is raised in the def's own code is taken -/
def XOkW (c : Cn) (W : WX) (X : XT) : Prop := ∀ C ns fs dd ws σ k' h' ς', SR c ς' σ k' h' → XAt k' dd ns ws → RepL c.K k' ws fs → X C ns fs ς' → W (.ref C) dd σ h'
theorem xokW {E : XK} {X : XT} (h : XOk c E X) : XOkW c (fun cls d _ H => E cls d H) X := fun C ns fs dd ws σ k' h' ς' S a r x => h C ns fs dd ws σ k' h' ς' S a r x
/-- a def's exceptions -/
theorem xok_def {s : Spc} {K : PySem.W.Frag} {R : Res} {k0 H : Hp} {ds : List D} {b : Nat} {E : XK} (hE : ∀ C ns fs b' dd ws k' h', s.exc R ds b C ns fs b' → Grow R.W k0 H k' h' → R.I b' h' → XAt k' dd ns ws → RepL K k' ws fs → E (.ref C) dd h') :
    XOk ⟨K, R, k0, H, true, fun _ => none⟩ E fun C ns fs ς => s.exc R ds b C ns fs ς.b := fun C ns fs dd ws σ k' h' ς' S a r x => hE C ns fs ς'.b dd ws k' h' x S.g S.i a r
theorem xok_init {s : SpcI} {K : PySem.W.Frag} {o : Addr} {k0 H : Hp} {ds : List D} {E : XK} (hE : ∀ C' ns fs b' dd ws k' h', s.exc ds C' ns fs → Grow (initR o).W k0 H k' h' → (initR o).I b' h' → XAt k' dd ns ws → RepL K k' ws fs → E (.ref C') dd h') :
    XOk ⟨K, initR o, k0, H, false, fun _ => none⟩ E fun C ns fs ς => s.exc ds C ns fs := fun C ns fs dd ws σ k' h' ς' S a r x => hE C ns fs 0 dd ws k' h' x S.g trivial a r
theorem map_zip : ∀ {α β : Type} {l : List α} {m : List β}, m.length = l.length → (l.zip m).map (·.1) = l ∧ (l.zip m).map (·.2) = m
  | _, _, [], [], _ => ⟨rfl, rfl⟩
  | _, _, a :: l, b :: m, h => by
    obtain ⟨h1, h2⟩ := map_zip (l := l) (m := m) (by simpa using h)
    exact ⟨by rw [List.zip_cons_cons, List.map_cons, h1], by rw [List.zip_cons_cons, List.map_cons, h2]⟩
theorem ws_raise {W : WX} {X : XT} {C : Addr} {fs : List Str} {ta : TA} (hX : XOkW c W X) (h : WL c ta ς fun ds ς1 => ds.length = fs.length ∧ X C fs ds ς1) : WS c (fun _ σ H => tXMk C fs ta σ H fun cls d H' => W cls d σ H') ς Ψ := fun σ k hh S D z =>
  h σ k hh S _ fun vs k1 h1 ds ς1 S1 e1 r1 ⟨l, x⟩ => by
    refine ⟨by rw [r1.length, l], ?_⟩
    cases fs with
    | nil =>
      exact hX C [] ds none vs σ k1 h1 ς1 S1 rfl r1 x
    | cons f fs =>
      intro d hd
      have g : Grow No k1 h1 (upd k1 d (.xd ((f :: fs).zip vs))) (upd h1 d (.xd ((f :: fs).zip vs))) := Grow.new S1.kh hd (by nofun)
      exact hX C (f :: fs) ds (some d) vs σ _ _ ς1 (S1.grow g) ⟨d, rfl, upd_same⟩ (r1.mono g.kk) x
/-- a call in a try's body -/
theorem we_callT {n : Nat} {s : Spc} {W : WX} {ta : TA} {X : XT} (hE : XOkW c W X)
    (h : WL c ta ς fun ds ς1 => ds.length = n ∧ s.pre Res.none ds 0 ∧ (∀ d b, s.post Res.none ds 0 d b → Φ d ς1) ∧ ∀ C ns fs b, s.exc Res.none ds 0 C ns fs b → X C ns fs ς1) : WE c (tCallS (SpS c.K n s) (L2.WE W) ta) ς Φ := fun σ k hh S Q z =>
  h σ k hh S _ fun vs k1 h1 ds ς1 S1 e1 r1 ⟨l, p1, p2, p3⟩ => by
    refine ⟨by rw [r1.length, l], Res.none, k1, ds, 0, r1, S1.kh, trivial, fun a z => z.elim, p1, fun d b q v k' h' g _ r => ?_, fun C ns fs b q dd ws k' h' g _ e r => ?_⟩
    · exact z v k' h' d ς1 (S1.grow g) (e1.trans g.kk) r (p2 d b q)
    · exact hE C ns fs dd ws σ k' h' ς1 (S1.grow g) e r (p3 C ns fs b q)
/-- the exception's field -/
theorem we_xf {a dd C : Addr} {f : Str} {te : TE} (h : WE c te ς fun d ς1 => ∃ ns ds d', d = .exc a dd C ns ds ∧ lookD f ns ds = some d' ∧ Φ d' ς1) : WE c (tXf a (.ref C) (some dd) C f te) ς Φ := fun σ k hh S Q z =>
  h σ k hh S _ fun v k1 h1 d ς1 S1 e1 r1 ⟨ns, ds, d', ed, hl, q⟩ => by
    subst ed
    cases r1 with
    | exc ek en er =>
      obtain ⟨v', e2, r2⟩ := look_rep en er hl
      exact ⟨rfl, rfl, dd, _, v', rfl, S1.kh _ _ ek, e2, z v' k1 h1 d' ς1 S1 e1 r2 q⟩
/-- the state within a suite, the ends behind it -/
def putX (oi : Option Nat) (d : D) (ς : Sta) : Sta := match oi with
  | none => ς
  | some i => { ς with δ := ς.δ.set i (some d) }
def wipeX (oi : Option Nat) (ς : Sta) : Sta := match oi with
  | none => ς
  | some i => { ς with δ := ς.δ.set i none }
def goneP (oi : Option Nat) (Ψ : Psi) : Psi := { nx := fun ς => Ψ.nx (wipeX oi ς), rt := Ψ.rt, bk := fun ς => Ψ.bk (wipeX oi ς), ct := fun ς => Ψ.ct (wipeX oi ς) }
theorem SR.wipe1 {σ : L2.St} {k h : Hp} (S : SR c ς σ k h) (i : Nat) : SR c { ς with δ := ς.δ.set i none } (σ.set i none) k h := by
  refine ⟨S.g, S.i, S.w, fun j d q => ?_, S.m, S.nd, by rw [List.length_set, List.length_set]; exact S.len, S.kb⟩
  have q : (ς.δ.set i none)[j]? = some (some d) := q
  by_cases e : i = j
  · subst e
    rw [List.getElem?_set] at q
    simp only [if_true] at q
    split at q <;> cases q
  · rw [List.getElem?_set_ne e] at q
    obtain ⟨v, h1, h2⟩ := S.s j d q
    exact ⟨v, by rw [List.getElem?_set_ne e]; exact h1, h2⟩
theorem SR.put1 {σ : L2.St} {k h : Hp} {v : V} {d : D} (S : SR c ς σ k h) (i : Nat) (r : Rep c.K k v d) : SR c { ς with δ := ς.δ.set i (some d) } (σ.set i (some v)) k h := by
  refine ⟨S.g, S.i, S.w, fun j d' q => ?_, S.m, S.nd, by rw [List.length_set, List.length_set]; exact S.len, S.kb⟩
  have q : (ς.δ.set i (some d))[j]? = some (some d') := q
  by_cases e : i = j
  · subst e
    rw [List.getElem?_set] at q
    simp only [if_true] at q
    split at q
    · rename_i hl
      cases q
      exact ⟨v, by rw [List.getElem?_set]; simp only [if_true]; rw [if_pos (by rw [← S.len]; exact hl)], r⟩
    · cases q
  · rw [List.getElem?_set_ne e] at q
    obtain ⟨v', h1, h2⟩ := S.s j d' q
    exact ⟨v', by rw [List.getElem?_set_ne e]; exact h1, h2⟩
/-- the clauses take the exception -/
def HndOk (c : Cn) (Ψ : Psi) (Xo : XT) (C : Addr) (ns : List Str) (fs : List D) (ς : Sta) : List HC → Prop
  | [] => Xo C ns fs ς
  | (cv, oi, ts) :: r => ∃ b, PySem.W.exmOne c.K (.ref C) cv = some b ∧
      (b = true → (∀ a x, ns ≠ [] → WS c (ts a (.ref C) (some x)) (putX oi (.exc a x C ns fs) ς) (goneP oi Ψ)) ∧ (ns = [] → ∀ a, WS c (ts a (.ref C) none) (putX oi (.ref a) ς) (goneP oi Ψ))) ∧
      (b = false → HndOk c Ψ Xo C ns fs ς r)
/-- the same, where all that was known at k is known later -/
abbrev Cn.at (c : Cn) (kb : Hp) : Cn := { c with kb := kb }
theorem SR.into {σ : L2.St} {k h kb : Hp} (S : SR c ς σ k h) (e : Same kb k) : SR (c.at kb) ς σ k h := ⟨S.g, S.i, S.w, S.s, S.m, S.nd, S.len, e⟩
theorem SR.out {σ : L2.St} {k h kb : Hp} (S : SR (c.at kb) ς σ k h) (e : Same c.kb kb) : SR c ς σ k h := ⟨S.g, S.i, S.w, S.s, S.m, S.nd, S.len, e.trans S.kb⟩
/-- a clause's end, gone on behind the try -/
theorem end_at {kb : Hp} {E1 : Ends} (e0 : Same c.kb kb) (z : EndOk c kb Ψ E1) (oi : Option Nat) {σ : L2.St} {k h : Hp} {ς1 : Sta} {d : D} {v : V} {ts : TS} (S : SR (c.at kb) ς1 σ k h) (r : Rep c.K k v d) (w : WS (c.at kb) ts (putX oi d ς1) (goneP oi Ψ)) :
    ts (match oi with | none => E1 | some i => gone i E1) (match oi with | none => σ | some i => σ.set i (some v)) h := by
  cases oi with
  | none =>
    refine w σ k h S _ ⟨fun a b f s q p x => z.nx a b f s (q.out e0) q.kb x, fun a b f s q p x => z.bk a b f s (q.out e0) q.kb x, fun a b f s q p x => z.ct a b f s (q.out e0) q.kb x, fun v a b f g s q p r x => z.rt v a b f g s (q.out e0) q.kb r x⟩
  | some i =>
    refine w (σ.set i (some v)) k h (S.put1 i r) _ ⟨fun a b f s q p x => ?_, fun a b f s q p x => ?_, fun a b f s q p x => ?_, fun v a b f g s q p r x => z.rt v a b f g s (q.out e0) q.kb r x⟩
    · exact z.nx (a.set i none) b f (wipeX (some i) s) ((q.wipe1 i).out e0) q.kb x
    · exact z.bk (a.set i none) b f (wipeX (some i) s) ((q.wipe1 i).out e0) q.kb x
    · exact z.ct (a.set i none) b f (wipeX (some i) s) ((q.wipe1 i).out e0) q.kb x
theorem hnd_mix {kb : Hp} {E1 : Ends} {Wout : WX} {Xo : XT} (e0 : Same c.kb kb) (z : EndOk c kb Ψ E1) (ho : XOkW c Wout Xo) {σ : L2.St} {k h : Hp} {ς1 : Sta} {C : Addr} {ns : List Str} {fs : List D} {dd : Option Addr} {ws : List V} (S : SR (c.at kb) ς1 σ k h) (ha : XAt k dd ns ws) (hr : RepL c.K k ws fs) (hl : ws.length = ns.length) :
    ∀ {l : List HC}, HndOk (c.at kb) Ψ Xo C ns fs ς1 l → wMix c.K Wout E1 l (.ref C) dd σ h
  | [], w => ho C ns fs dd ws σ k h ς1 (S.out e0) ha hr w
  | (cv, oi, ts) :: r, ⟨b, e, hy, hn⟩ => by
    refine ⟨b, e, fun eb a _ => ?_, fun eb => hnd_mix e0 z ho S ha hr hl (hn eb)⟩
    obtain ⟨y1, y2⟩ := hy eb
    cases ns with
    | nil =>
      have ha : dd = none := ha
      subst ha
      have q := end_at e0 z oi S (.ref a) (y2 rfl a)
      cases oi with
      | none => exact q
      | some i => exact q
    | cons f ns =>
      obtain ⟨x, ex, hx⟩ := ha
      subst ex
      obtain ⟨m1, m2⟩ := map_zip (l := f :: ns) (m := ws) hl
      have q := end_at e0 z oi S (.exc hx m1 (by rw [m2]; exact hr)) (y1 a x (by simp))
      cases oi with
      | none => exact q
      | some i => exact q
theorem ws_try {tb : WX → TS} {l : List HC} {Wout : WX} {X Xo : XT} (ho : XOkW c Wout Xo) (hx : ∀ C ns fs ς1, X C ns fs ς1 → fs.length = ns.length)
    (h : ∀ kb, Same c.kb kb → (∀ C ns fs ς1, X C ns fs ς1 → HndOk (c.at kb) Ψ Xo C ns fs ς1 l) ∧ ∀ W, XOkW (c.at kb) W X → WS (c.at kb) (tb W) ς Ψ) : WS c (fun E1 σ H => tb (wMix c.K Wout E1 l) E1 σ H) ς Ψ := fun σ k hh S E1 z => by
  obtain ⟨h1, h2⟩ := h k S.kb
  refine h2 (wMix c.K Wout E1 l) (fun C ns fs dd ws σ' k' h' ς' S' a r x => hnd_mix S.kb z ho S' a r (by rw [r.length, hx C ns fs ς' x]) (h1 C ns fs ς' x)) σ k hh (S.into (Same.refl _)) E1 ?_
  exact ⟨fun a b f s q p x => z.nx a b f s (q.out S.kb) p x, fun a b f s q p x => z.bk a b f s (q.out S.kb) p x, fun a b f s q p x => z.ct a b f s (q.out S.kb) p x, fun v a b f g s q p r x => z.rt v a b f g s (q.out S.kb) p r x⟩
end
end DL

set_option Elab.async false
set_option linter.all false
set_option maxRecDepth 100000
set_option maxHeartbeats 4000000
namespace DX
open PySem PySem.Spec PyProof.Rows L2
/-! ### a lambda handed to a def that calls it within a try -/
def tTryL (K : PySem.W.Frag) (n : Nat) (l : List HC) (tBody : XK → TS) : TS := fun E1 σ H => ∃ Ech : XK, (∀ cls d (σ' : L2.St) H', Ech cls d H' → σ'.length = n → wMix K (fun _ _ _ _ => False) E1 l cls d σ' H') ∧ tBody Ech E1 σ H
theorem ps_tryL {X : Cx} {body : List Stmt} {h₀ : ExceptHandler} {hds : List ExceptHandler} {l : List HC} {pos : Pos} {tBody : XK → TS} (hs : X.stack = X.env :: X.outer) (hf : X.env.frame = some X.env.locals)
    (hb : ∀ (W : WX) (pn : List (Addr × Obj)) (xe : Value → Shared → Prop), Takes (X.tr pn xe) W → PassesOwn (model X.prog X.w) X.A X.env xe → ∀ Ech : XK, (∀ cls d σ' H', Ech cls d H' → W cls d σ' H') → PSs (X.tr pn xe) body (tBody Ech))
    (hh : Hds X (h₀ :: hds) l) : PS X (.Try body (h₀ :: hds) [] [] pos) (tTryL X.K X.N.length l tBody) := by
  refine ps_try_mix (Wout := fun _ _ _ _ => False) (tb := fun W E1 σ H => ∃ Ech : XK, (∀ cls d (σ' : L2.St) H', Ech cls d H' → σ'.length = X.N.length → W cls d σ' H') ∧ tBody Ech E1 σ H) hs hf LamX.takes0 (fun W pn xe tk po => ?_) hh
  refine ⟨fun pins s σ H D I h => ?_⟩
  obtain ⟨Ech, hW, h2⟩ := h
  refine (hb (fun cls d σ' H' => σ'.length = X.N.length → W cls d σ' H') pn xe (fun u s' ⟨a, B, sI, pins', σ', H', cls, d, e, J, r1, r2, r3, r4, r5, r6, w⟩ => tk u s' ⟨a, B, sI, pins', σ', H', cls, d, e, J, r1, r2, r3, r4, r5, r6, w J.len⟩) po Ech fun cls d σ' H' e hl => hW cls d σ' H' e hl).run pins s σ H D I h2
/-- the lambda called -/
def tAct (f c' : Addr) (q : Str) (tl : XK → Hp → VK → Prop) (E : XK) : TE := fun σZ HZ Q => σZ[0]? = some (some (.ref f)) ∧ HZ c' = some (LamX.CodeO c' q) ∧ tl E HZ Q
/-- what the def makes of it -/
def TTof (q : Str) (Ng : List Str) (T : Addr → Addr → (XK → Hp → VK → Prop) → TS) : (XK → Hp → VK → Prop) → Hp → VK → Prop := fun tl H Q => ∀ f c', H c' = some (LamX.CodeO c' q) → T f c' tl { nx := fun _ H' => Q .non H', rt := Q } (L2.start Ng [.ref f]) H
/-- how the lambda's call is read in the def's own try -/
def Acts (Z : Cx) (a : Str) (f c' : Addr) (q : Str) (tl : XK → Hp → VK → Prop) : Prop := ∀ (W : WX) (pn : List (Addr × Obj)) (xe : Value → Shared → Prop) (E : XK) (p1 p2 : Pos), Takes (Z.tr pn xe) W → (∀ cls d σ' H', E cls d H' → W cls d σ' H') → PE (Z.tr pn xe) (.Call (.Name a p1) [] [] p2) (tAct f c' q tl E)
/-- the context of the def that got the lambda -/
abbrev Zx (X : Cx) (Ng : List Str) (x : Str) (sg : Scope) (g : Addr) (cdg : Value) (s : Shared) (H : Hp) : Cx := cxOf C8.CX0 X.prog X.w X.K X.mg X.base Ng x sg g cdg X.A X.stack s H C8.E0
theorem gives {X : Cx} {Ng : List Str} {x a q : Str} {sg : Scope} {g : Addr} {cdg : Value} {bg : List Stmt} {T : Addr → Addr → (XK → Hp → VK → Prop) → TS}
    (h : ∀ (f c' : Addr) (s : Shared) (H : Hp) (tl : XK → Hp → VK → Prop), Acts (Zx X Ng x sg g cdg s H) a f c' q tl → PSs (Zx X Ng x sg g cdg s H).nox bg (T f c' tl)) :
    LamX.GivesTo X Ng x sg g cdg bg a q (TTof q Ng T) := fun f c' s H Q tl act hc h' => ⟨T f c' tl, h f c' s H tl act, h' f c' hc⟩
end DX
namespace DL
open PySem PySem.Spec PyProof.Rows L2 DX
/-- the lambda's body, told of states that bear c3 -/
def TlOk (c3 : Cn) (β : Nat) (tl : XK → Hp → VK → Prop) (Φb : D → Prop) (Xb : XD) : Prop := ∀ (σ2 : L2.St) (k2 h2 : Hp) (ς2 : Sta), SR c3 ς2 σ2 k2 h2 → ς2.m = [] → ς2.b = β → ∀ (E : XK) (Q : VK),
  (∀ v k' h' d, SR c3 ς2 σ2 k' h' → Same k2 k' → Rep c3.K k' v d → Φb d → Q v h') → (∀ C ns fs dd ws k' h', SR c3 ς2 σ2 k' h' → Same k2 k' → XAt k' dd ns ws → RepL c3.K k' ws fs → Xb C ns fs → E (.ref C) dd h') → tl E h2 Q
theorem TlOk.at {c3 : Cn} {β : Nat} {tl : XK → Hp → VK → Prop} {Φb : D → Prop} {Xb : XD} {kb : Hp} (h : TlOk c3 β tl Φb Xb) (e0 : Same c3.kb kb) : TlOk (c3.at kb) β tl Φb Xb := fun σ2 k2 h2 ς2 S hm hb E Q q1 q2 =>
  h σ2 k2 h2 ς2 (S.out e0) hm hb E Q (fun v k' h' d S' e r x => q1 v k' h' d (S'.into (S.kb.trans e)) e r x) fun C ns fs dd ws k' h' S' e a r x => q2 C ns fs dd ws k' h' (S'.into (S.kb.trans e)) e a r x
section
variable {c : Cn} {ς : Sta} {Φ : D → Sta → Prop} {Ψ : Psi}
theorem we_act {β : Nat} {f c' : Addr} {q : Str} {tl : XK → Hp → VK → Prop} {E : XK} {Φb : D → Prop} {Xb : XD} {X : XT} (hT : TlOk c β tl Φb Xb) (hc : ∀ b h, c.R.I b h → h c' = some (LamX.CodeO c' q)) (hE : XOk c E X) (h0 : ς.δ[0]? = some (some (.ref f))) (hm : ς.m = []) (hβ : ς.b = β)
    (hx : ∀ C ns fs, Xb C ns fs → X C ns fs ς) (hq : ∀ d, Φb d → Φ d ς) : WE c (tAct f c' q tl E) ς Φ := fun σ k h S Q z => by
  obtain ⟨v, hv, rv⟩ := S.s 0 _ h0
  cases rv
  exact ⟨hv, hc _ _ S.i, hT σ k h ς S hm hβ E Q (fun v k' h' d S' e r x => z v k' h' d ς S' e r (hq d x)) fun C ns fs dd ws k' h' S' _ a r x => hE C ns fs dd ws σ k' h' ς S' a r (hx C ns fs x)⟩
theorem ws_tryL {n : Nat} {l : List HC} {tBody : XK → TS} {Xb : XD} (hn : ς.δ.length = n) (hx : ∀ C ns fs, Xb C ns fs → fs.length = ns.length)
    (h : ∀ kb, Same c.kb kb → (∀ C ns fs, Xb C ns fs → HndOk (c.at kb) Ψ (fun _ _ _ _ => False) C ns fs { δ := List.replicate n none, b := ς.b } l) ∧ ∀ Ech, XOk (c.at kb) Ech (fun C ns fs ς1 => Xb C ns fs ∧ ς1.b = ς.b) → WS (c.at kb) (tBody Ech) ς Ψ) :
    WS c (tTryL c.K n l tBody) ς Ψ := fun σ k hh S E1 z => by
  obtain ⟨h1, h2⟩ := h k S.kb
  refine ⟨fun cls d H' => ∀ σ' : L2.St, σ'.length = n → wMix c.K (fun _ _ _ _ => False) E1 l cls d σ' H', fun cls d σ' H' e hl => e σ' hl, ?_⟩
  refine h2 (fun cls d H' => ∀ σ' : L2.St, σ'.length = n → wMix c.K (fun _ _ _ _ => False) E1 l cls d σ' H') (fun C ns fs dd ws σ' k' h' ς' S' a r ⟨x, eb⟩ σ2 hl => ?_) σ k hh (S.into (Same.refl _)) E1 ?_
  · have S2 : SR (c.at k) { δ := List.replicate n none, b := ς.b } σ2 k' h' := ⟨S'.g, by rw [← eb]; exact S'.i, S'.w, fun i d q => by
      have q : (List.replicate n (none : Option D))[i]? = some (some d) := q
      rw [List.getElem?_replicate] at q
      (split at q <;> cases q), fun p hp => absurd hp (by simp), List.nodup_nil, by rw [hl, List.length_replicate], S'.kb⟩
    exact hnd_mix S.kb z (fun _ _ _ _ _ _ _ _ _ _ _ _ z => z.elim) S2 a r (by rw [r.length, hx C ns fs x]) (h1 C ns fs x)
  · exact ⟨fun a b f s q p x => z.nx a b f s (q.out S.kb) p x, fun a b f s q p x => z.bk a b f s (q.out S.kb) p x, fun a b f s q p x => z.ct a b f s (q.out S.kb) p x, fun v a b f g s q p r x => z.rt v a b f g s (q.out S.kb) p r x⟩
/-- what the tables ask of the def's resource -/
structure TabR (c : Cn) (Tb : List (Addr × Str)) : Prop where
  k0 : ∀ a ps, c.k0 a ≠ some (.tbl ps)
  h0 : ∀ a ps, c.h0 a = some (.tbl ps) → c.R.W a
  fr : c.fr = true
  tabs : ∀ b h, c.R.I b h → LamX.Tabs Tb h
  ext : ∀ b h h', c.R.I b h → LamX.ExtN h h' → LamX.Tabs Tb h' → c.R.I b h'
  there : ∀ b h a, c.R.I b h → c.R.W a → h a ≠ none
theorem we_lam {Tb : List (Addr × Str)} {t : XK → TE} {T : Addr → Addr → (XK → Hp → VK → Prop) → TS} {Ng : List Str} {q : Str} {Φb : D → Prop} {Xb : XD} (V : TabR c Tb)
    (hb : ∀ c3 : Cn, c3.K = c.K → c3.fr = true → ∀ E, XOk c3 E (fun C ns fs ς1 => Xb C ns fs ∧ ς1 = { δ := ς.δ, b := ς.b }) → WE c3 (t E) { δ := ς.δ, b := ς.b } fun d ς1 => Φb d ∧ ς1 = { δ := ς.δ, b := ς.b })
    (hg : ∀ c3 : Cn, c3.K = c.K → c3.fr = true → ∀ f c' tl, (∀ b h, c3.R.I b h → h c' = some (LamX.CodeO c' q)) → TlOk c3 ς.b tl Φb Xb →
      WS c3 (T f c' tl) { δ := startD Ng [.ref f], b := ς.b } { nx := fun ς1 => Φ .non { ς with b := ς1.b }, rt := fun d ς1 => Φ d { ς with b := ς1.b } }) :
    WE c (LamX.tLam Tb (TTof q Ng T) t) ς Φ := fun σ k h S Q z => ⟨V.tabs _ _ S.i, fun H1 eN T1 f c' hc => by
  have kN : ∀ a ps, k a ≠ some (.tbl ps) := fun a ps q => V.k0 a ps (S.g.kt a ps q)
  have I1 : c.R.I ς.b H1 := V.ext _ _ _ S.i eN T1
  have kH1 : Same k H1 := fun a o q => eN a o (S.kh a o q) fun ps e => kN a ps (by rw [q, e])
  have S1 : SR c ς σ k H1 := by
    have hh : ∀ a o, ¬ c.R.W a → c.h0 a = some o → H1 a = some o := fun a o nw q => eN a o (S.g.hh a o nw q) fun ps e => nw (V.h0 a ps (by rw [q, e]))
    refine ⟨⟨S.g.kk, kH1, hh, fun a q => ?_, S.g.dj, S.g.kt⟩, I1, S.w, S.s, fun p hp => ?_, S.nd, S.len, S.kb⟩
    · by_cases wa : c.R.W a
      · exact V.there _ _ _ I1 wa
      · cases e : c.h0 a with
        | none => exact absurd e q
        | some o => rw [hh a o wa e]; simp
    · obtain ⟨a1, a2, a3⟩ := S.m p hp
      refine ⟨a1, a2, ?_⟩
      obtain ⟨o, mo⟩ := p
      cases mo with
      | lst ds => obtain ⟨vs, q, r⟩ := a3; exact ⟨vs, eN _ _ q (by nofun), r⟩
      | ins C dx ns ds => obtain ⟨fs, q, n, r⟩ := a3; exact ⟨fs, eN _ _ q (by nofun), n, r⟩
      | dct ks ds => obtain ⟨kvs, q, n, r⟩ := a3; exact ⟨kvs, eN _ _ q (by nofun), n, r⟩
  let R3 : Res := ⟨c.R.W, fun b h => c.R.I b h ∧ h c' = some (LamX.CodeO c' q), fun b h h' st ⟨x, y⟩ => ⟨c.R.st b h h' st x, st c' _ (.inr trivial) y⟩⟩
  let c3 : Cn := ⟨c.K, R3, k, H1, true, k⟩
  have W3 : ∀ a, c.R.W a → k a = none ∧ H1 a ≠ none := fun a wa => ⟨S.g.dj a (S.w a wa).1 (S.w a wa).2, V.there _ _ _ I1 wa⟩
  have S3 : SR c3 { δ := startD Ng [.ref f], b := ς.b } (L2.start Ng [.ref f]) k H1 :=
    ⟨Grow.refl kH1, ⟨I1, hc⟩, W3, fun i d q => start_rep (ds := [.ref f]) (.cons (.ref f) .nil) q, fun p hp => absurd hp (by simp), List.nodup_nil, start_len rfl, Same.refl _⟩
  have tl : TlOk c3 ς.b (fun E H' Q' => t E σ H' Q') Φb Xb := by
    intro σ2 k2 h2 ς2 S2 hm hβ E Q' q1 q2
    have back : ∀ {ς1 : Sta} {k' h' : Hp}, ς1.b = ς.b → SR (c3.at k2) ς1 σ k' h' → SR c3 ς2 σ2 k' h' := fun {ς1 k' h'} eb S' =>
      ⟨S'.g, by rw [hβ, ← eb]; exact S'.i, S'.w, fun i d q => by
        obtain ⟨v, a, r⟩ := S2.s i d q
        exact ⟨v, a, r.mono S'.kb⟩, fun p hp => by rw [hm] at hp; exact absurd hp (by simp), S2.nd, S2.len, S2.kb.trans S'.kb⟩
    have Sb : SR (c3.at k2) { δ := ς.δ, b := ς.b } σ k2 h2 := ⟨S2.g, by have := S2.i; rw [hβ] at this; exact this, S2.w, fun i d q => by
      obtain ⟨v, a, r⟩ := S.s i d q
      exact ⟨v, a, r.mono S2.g.kk⟩, fun p hp => absurd hp (by simp), List.nodup_nil, S.len, Same.refl _⟩
    refine hb (c3.at k2) rfl rfl E (fun C ns fs dd ws σ' k' h' ς' S' a r ⟨x, e⟩ => ?_) σ k2 h2 Sb Q' fun v k' h' d ς1 S' e r ⟨x, eς⟩ => ?_
    · subst e
      refine q2 C ns fs dd ws k' h' ⟨S'.g, by rw [hβ]; exact S'.i, S'.w, fun i d q => ?_, fun p hp => ?_, S2.nd, S2.len, S2.kb.trans S'.kb⟩ S'.kb a r x
      · obtain ⟨v, a, r⟩ := S2.s i d q
        exact ⟨v, a, r.mono S'.kb⟩
      · rw [hm] at hp
        exact absurd hp (by simp)
    · subst eς
      exact q1 v k' h' d (back (ς1 := { δ := ς.δ, b := ς.b }) rfl S') e r x
  have fin : ∀ {ς' : Sta} {σ' : L2.St} {k' h' : Hp}, SR c3 ς' σ' k' h' → SR c { ς with b := ς'.b } σ k' h' := fun {ς' σ' k' h'} S' => S1.after S'.g S'.i.1 V.fr
  exact hg c3 rfl rfl f c' _ (fun b h x => x.2) tl (L2.start Ng [.ref f]) k H1 S3 _ ⟨fun σ' k' h' ς' S' e x => z .non k' h' .non _ (fin S') e .non x, fun _ _ _ _ _ _ x => x.elim, fun _ _ _ _ _ _ x => x.elim, fun v σ' k' h' d ς' S' e r x => z v k' h' d _ (fin S') e r x⟩⟩
end
end DL

set_option Elab.async false
set_option linter.all false
set_option maxRecDepth 100000
set_option maxHeartbeats 4000000
namespace DX
open PySem PySem.Spec PyProof.Rows L2 DL
/-- raise C(..) -/
def tRaise (C : Addr) (fs : List Str) (W : WX) (ta : TA) : TS := fun _ σ H => tXMk C fs ta σ H fun cls d H' => W cls d σ H'
theorem ps_rs {X : Cx} {W : WX} {C : Addr} {fs : List Str} {a : Expr} {es : List Expr} {ta : TA} {x : Str} {p pos pos2 : Pos} {k : Nat} (tk : Takes X W) (T : ∃ fI, Txt X.prog X.K X.mg x C fI fs) (nd : fs.Nodup) (hfew : fs.length ≤ 800) (hr : Room k X.A) (ha : PA X (a :: es) ta) (hc : X.calm = true := by rfl) (hg : Gl X x := by rfl) (hdb : (x == ("__debug__" : Str)) = false := by decide)
    (he : starEach (a :: es) X.env = (false, eval a X.env) :: starEach es X.env := by rfl) (hpl : (backTo pos (starEach es X.env)).any (·.1) = false := by rfl) :
    PS X (.Raise (some (.Call (.Name x p) (a :: es) [] pos)) none pos2) (tRaise C fs W ta) := by
  obtain ⟨fI, T⟩ := T
  exact ps_raise hc tk (pmk_x T nd hfew hr ha hg hdb he hpl)
theorem ps_rs0 {X : Cx} {W : WX} {C : Addr} {x : Str} {p pos pos2 : Pos} {k : Nat} (tk : Takes X W) (T : ∃ fI, Txt X.prog X.K X.mg x C fI []) (hr : Room k X.A) (hc : X.calm = true := by rfl) (hg : Gl X x := by rfl) (hdb : (x == ("__debug__" : Str)) = false := by decide) :
    PS X (.Raise (some (.Call (.Name x p) [] [] pos)) none pos2) (tRaise C [] W tNil) := by
  obtain ⟨fI, T⟩ := T
  exact ps_raise hc tk (pmk_x0 T hr hg hdb)
theorem ws_rs {c : Cn} {ς : Sta} {Ψ : Psi} {W : WX} {X : XT} {C : Addr} {fs : List Str} {ta : TA} (hX : XOkW c W X) (h : WL c ta ς fun ds ς1 => ds.length = fs.length ∧ X C fs ds ς1) : WS c (tRaise C fs W ta) ς Ψ := ws_raise hX h
/-- a clause's class -/
theorem nm_own {X : Cx} {x : Str} {C fI : Addr} {fs : List Str} (T : Txt X.prog X.K X.mg x C fI fs) (hg : Gl X x := by rfl) (hdb : (x == ("__debug__" : Str)) = false := by decide) : Names X x (.ref C) := ⟨hg, hdb, .inl T.gC⟩
theorem nm_ex {X : Cx} {x : Str} {C : Addr} {fs : List Str} (T : ∃ fI, Txt X.prog X.K X.mg x C fI fs) (hg : Gl X x := by rfl) (hdb : (x == ("__debug__" : Str)) = false := by decide) : Names X x (.ref C) := by
  obtain ⟨fI, T⟩ := T
  exact ⟨hg, hdb, .inl T.gC⟩
/-- e.f, e the exception that the suite holds -/
theorem pe_exf {X : Cx} {a C : Addr} {oe : Obj} {cls : Value} {d : Option Addr} {pn : List (Addr × Obj)} {e : Expr} {te : TE} {pos : Pos} {x n : Str} {fs : List Str} (T : ∃ fI, Txt X.prog X.K X.mg x C fI fs) (hn : n ∈ fs)
    (hz : Zc cls d oe) (hf : ∃ vs, oe.data = .fields vs) (he : PE (X.suite a ((a, oe) :: pn)) e te) (hb : attributeBase e n X.env (eval e X.env) = eval e X.env := by rfl) :
    PE (X.suite a ((a, oe) :: pn)) (.Attribute e n pos) (tXf a cls d C n te) := by
  obtain ⟨fI, T⟩ := T
  exact pe_xf T.xf (T.noN n hn) hz hf he hb
end DX
namespace DX
open PySem PySem.Spec PyProof.Rows L2 DL
/-- x(lambda: body), x a def that calls what it got within a try -/
theorem pe_lamT {X : Cx} {Tb : List (Addr × Str)} {x a : Str} {st : Stmt} {Ng : List Str} {c Pt : Addr} {k : Nat} {params : Arguments} {body : Expr} {scope : Scope} {t : XK → TE} {T : Addr → Addr → (XK → Hp → VK → Prop) → TS} {p lpos pos : Pos} {q : Str}
    (hx : ∃ (g : Addr) (fd : FuncData), Fun X.K x x st g fd ∧ X.mg x = some (.ref g) ∧ L2.Binds X.K fd [a] []) (Sg : FnScope Ng [a] (defScope st)) (hNg : Ng[0]? = some a) (hva : Vis (defScope st) a)
    (hd : ∀ (g : Addr) (cdg : Value) (f c' : Addr) (s : Shared) (H : Hp) (tl : XK → Hp → VK → Prop), Acts (Zx X Ng x (defScope st) g cdg s H) a f c' q tl → PSs (Zx X Ng x (defScope st) g cdg s H).nox (defBody st) (T f c' tl))
    (TB : LamX.TabB X.base X.mg c Pt) (hcode : X.env.code = .ref c) (hmT : (Pt, q) ∈ Tb) (hu : ∀ p ∈ Tb, p.1 = Pt → p.2 = q) (hr : Room (k + 2) X.A) (L : LamX.LamS X.env.scope scope)
    (hbody : ∀ (A : Around) (outer : List Env) (s : Shared) (H : Hp) (E : XK) (f c' : Addr), Room k (A.deeper (LamX.lamEnv X scope s.heap.objs.size f c')) → PE (LamX.lamCx X A outer s H E scope f c') body (t E))
    (hq : X.env.qual ++ "<lambda>" = q := by rfl) (hg : Gl X x := by rfl) (hdef : defaultsOf params X.env = ([], []) := by rfl)
    (hbind : ∀ (q : Str) (cl : List (Str × Addr)) (pm cv ctv : Value), bindArgs (PySem.W.kla_fn "<lambda>" q params body scope cl pm cv ctv) ⟨[], []⟩ = pure [] := by intros; rfl)
    (hdb : (x == ("__debug__" : Str)) = false := by decide) (hda : (a == ("__debug__" : Str)) = false := by decide) (hcd : (a == ("__classdict__" : Str)) = false := by decide) :
    PE X (.Call (.Name x p) [.Lambda params body scope lpos] [] pos) (LamX.tLam Tb (TTof q Ng T) t) := by
  subst hq
  obtain ⟨g, fd, F, hm, hb⟩ := hx
  obtain ⟨oc, od, kV, doc, pm, an, cdv, ct, osl, rfl, lk, hcg⟩ := F.ex
  exact LamX.pe_lamcall hg hm F.kp lk hcg hb Sg hNg hva (gives fun f c' s H tl act => hd g cdv f c' s H tl act) TB hcode hmT hu hr L hdef hbind hbody hdb hda hcd
end DX

set_option Elab.async false
set_option linter.all false
set_option maxRecDepth 100000
set_option maxHeartbeats 4000000
namespace DL
open PySem PySem.Spec PyProof.Rows L2 DX
section
variable {c : Cn} {ς : Sta} {Φ : D → Sta → Prop} {Ψ : Psi}
theorem take_more {α : Type} {l : List α} {i : Nat} {x : α} (h : l[i]? = some x) : l.take (i + 1) = l.take i ++ [x] := by
  rw [List.take_add_one, h]
  rfl
/-- a list comprehension that hangs on its items alone -/
theorem we_lcF {wi : TI} {g : TG} {tt : TT} {te : TE} {vs : List Nat} (kg : KG g vs) (h : WI c wi ς fun ds ς1 => ∃ (p : D → Bool) (f : D → D), ds.length < sizeLine ∧
    (∀ d ∈ ds, ∀ (o : Addr) (acc : List D), WG c g d { δ := wipeD ς1.δ vs, m := (o, .lst acc) :: ς1.m, b := ς1.b } fun ς2 => WT c tt ς2 fun x ς3 => x = p d ∧
      (x = true → WE c te ς3 fun e ς4 => e = f d ∧ ς4.m = (o, .lst acc) :: ς1.m ∧ ς4.b = ς1.b) ∧ (x = false → ς3.m = (o, .lst acc) :: ς1.m ∧ ς3.b = ς1.b)) ∧
    Φ (.lst ((ds.filter p).map f)) ς1) : WE c (tLc wi g tt te vs) ς Φ := by
  refine we_lc kg fun σ k hh S Q z => h σ k hh S Q fun J k1 h1 ds ς1 S1 e1 w ⟨p, f, hl, hs, hq⟩ => ?_
  refine z J k1 h1 ds ς1 S1 e1 w ⟨fun i acc b => acc = ((ds.take i).filter p).map f ∧ b = ς1.b, ⟨rfl, rfl⟩, fun i d acc b o hi ⟨ea, eb⟩ => ?_, fun acc b ⟨ea, eb⟩ => ?_⟩
  · subst eb
    refine fun σ k h v S r Q z => hs d (List.mem_of_getElem? hi) o acc σ k h v S r Q fun σ' k' h' ς2 S' e q => z σ' k' h' ς2 S' e fun σ k h S Q z => q σ k h S Q fun x k' h' ς3 S' e ⟨ex, q1, q2⟩ => z x k' h' ς3 S' e ⟨fun e => ?_, fun e => ?_⟩
    · refine fun σ k h S Q z => q1 e σ k h S Q fun v k' h' d' ς4 S' e' r ⟨e1, e2, e3⟩ => z v k' h' d' ς4 S' e' r ⟨?_, e2, ?_, e3⟩
      · rw [ea, List.length_map]
        exact Nat.lt_of_le_of_lt (Nat.le_trans (List.length_filter_le _ _) (by rw [List.length_take]; omega)) hl
      · subst e1
        rw [take_more hi, List.filter_append, List.map_append, ← ea]
        simp [← ex, e]
    · obtain ⟨e1, e2⟩ := q2 e
      refine ⟨e1, ?_, e2⟩
      rw [take_more hi, List.filter_append, List.map_append, ← ea]
      simp [← ex, e]
  · subst eb
    rw [List.take_length] at ea
    rw [ea]
    exact hq
/-- the same without a test -/
theorem we_lcM {wi : TI} {g : TG} {te : TE} {vs : List Nat} (kg : KG g vs) (h : WI c wi ς fun ds ς1 => ∃ (f : D → D), ds.length < sizeLine ∧
    (∀ d ∈ ds, ∀ (o : Addr) (acc : List D), WG c g d { δ := wipeD ς1.δ vs, m := (o, .lst acc) :: ς1.m, b := ς1.b } fun ς2 =>
      WE c te ς2 fun e ς4 => e = f d ∧ ς4.m = (o, .lst acc) :: ς1.m ∧ ς4.b = ς1.b) ∧
    Φ (.lst (ds.map f)) ς1) : WE c (tLc wi g tYes te vs) ς Φ := by
  refine we_lcF kg fun σ k hh S Q z => h σ k hh S Q fun J k1 h1 ds ς1 S1 e1 w ⟨f, hl, hs, hq⟩ => ?_
  refine z J k1 h1 ds ς1 S1 e1 w ⟨fun _ => true, f, hl, fun d hd o acc => ?_, ?_⟩
  · refine fun σ k h v S r Q z => hs d hd o acc σ k h v S r Q fun σ' k' h' ς2 S' e q => z σ' k' h' ς2 S' e (wt_yes ⟨rfl, fun _ => q, fun e => nomatch e⟩)
  · have e : ds.filter (fun _ => true) = ds := by simp
    rw [e]
    exact hq
def tyS (d : D) : String := (tyN d).getD ""
theorem rc_isiS {K : PySem.W.Frag} {Φ' : D → Prop} {d : D} {n : String} (hs : (tyN d).isSome = true) (hn : Knd n) (q : Φ' (.bl (isB (tyS d) n))) : RC K (rIsi K) [d, .ty n] Φ' := by
  obtain ⟨s, e⟩ := Option.isSome_iff_exists.mp hs
  refine rc_isi e hn ?_
  have : tyS d = s := by unfold tyS; rw [e]; rfl
  rw [← this]
  exact q
/-- isinstance(d, n), n a built-in type -/
def isK (d : D) (n : String) : Option Bool := (tyN d).bind fun s => if ["NoneType", "bool", "int", "str", "list", "tuple", "dict"].contains n then some (isB s n) else none
theorem rc_isiB {K : PySem.W.Frag} {Φ' : D → Prop} {d : D} {n : String} {r : Bool} (h : isK d n = some r) (q : Φ' (.bl r)) : RC K (rIsi K) [d, .ty n] Φ' := by
  unfold isK at h
  obtain ⟨s, e, h⟩ := Option.bind_eq_some_iff.mp h
  split at h
  · rename_i hc
    cases h
    refine rc_isi e ?_ q
    simpa [Knd] using hc
  · cases h
theorem toBls {l : List Bool} : (l.map D.bl) = l.map D.bl := rfl
/-- any, all of a comprehension's truths -/
theorem rc_anyF {K : PySem.W.Frag} {Φ : D → Prop} {ds : List D} {f : D → Bool} (q : Φ (.bl (ds.any f))) : RC K (rAny K) [.lst (ds.map fun d => .bl (f d))] Φ := by
  have e : (ds.map fun d => D.bl (f d)) = (ds.map f).map D.bl := by rw [List.map_map]; rfl
  rw [e]
  refine rc_any ?_
  rw [List.any_map]
  exact q
theorem rc_allF {K : PySem.W.Frag} {Φ : D → Prop} {ds : List D} {f : D → Bool} (q : Φ (.bl (ds.all f))) : RC K (rAll K) [.lst (ds.map fun d => .bl (f d))] Φ := by
  have e : (ds.map fun d => D.bl (f d)) = (ds.map f).map D.bl := by rw [List.map_map]; rfl
  rw [e]
  refine rc_all ?_
  rw [List.all_map]
  exact q
end
end DL

set_option Elab.async false
set_option linter.all false
set_option maxRecDepth 100000
set_option maxHeartbeats 4000000
/-! the rules whose readings name the written part, with that part told ahead (a comprehension's block must not stand in a reading) -/
namespace DK
open PySem PySem.Spec PyProof.Rows L2 DL
section
variable {X : Cx} {K : PySem.W.Frag}
theorem op_add (h : X.K = K := by rfl) : OpR X (binaryOp .Add) (rAddK K) := by subst h; exact op_addK
theorem op_eq (hu : X.A.units + 64 < cLine) (h : X.K = K := by rfl) : OpR X (compareOp .Eq) (rEqK K) := by subst h; exact op_eqK hu
theorem op_ne (hu : X.A.units + 64 < cLine) (h : X.K = K := by rfl) : OpR X (compareOp .NotEq) (rNeK K) := by subst h; exact op_neK hu
theorem op_in (h : X.K = K := by rfl) : OpR X (compareOp .In) (rInK K) := by subst h; exact op_inK
theorem op_nin (h : X.K = K := by rfl) : OpR X (compareOp .NotIn) (rNinK K) := by subst h; exact op_ninK
theorem ix (h : X.K = K := by rfl) : IxR X (rIxK K) := by subst h; exact ix_K
theorem sl (h : X.K = K := by rfl) : SlR X (rSlK K) := by subst h; exact sl_K
theorem len (h : X.K = K := by rfl) : CallR X (.builtin "len") (rLenK K) := by subst h; exact call_lenK
theorem lst (h : X.K = K := by rfl) : CallR X (.type "list") (rListK K) := by subst h; exact call_listK
theorem tup (h : X.K = K := by rfl) : CallR X (.type "tuple") (rTupK K) := by subst h; exact call_tupK
theorem isi (h : X.K = K := by rfl) : CallR X (.builtin "isinstance") (rIsi K) := by subst h; exact call_isi
theorem isiT (h : X.K = K := by rfl) : CallR X (.builtin "isinstance") (rIsiT K) := by subst h; exact call_isiT
theorem any (h : X.K = K := by rfl) (hc : X.calm = true := by rfl) : CallR X (.builtin "any") (rAny K) := by subst h; exact cr_any hc
theorem all (h : X.K = K := by rfl) (hc : X.calm = true := by rfl) : CallR X (.builtin "all") (rAll K) := by subst h; exact cr_all hc
theorem sum (h : X.K = K := by rfl) (hc : X.calm = true := by rfl) : CallR X (.builtin "sum") (rSum K) := by subst h; exact cr_sum hc
theorem max (h : X.K = K := by rfl) (hc : X.calm = true := by rfl) : CallR X (.builtin "max") (rMax K) := by subst h; exact cr_max hc
theorem min (h : X.K = K := by rfl) (hc : X.calm = true := by rfl) : CallR X (.builtin "min") (rMin K) := by subst h; exact cr_min hc
theorem pi_list {tg l : Expr} {tl : TE} (hl : PE X l tl) (h : X.K = K := by rfl) : PI X tg l (iList K tl) := by subst h; exact L2.pi_list hl
theorem pi_tup {tg l : Expr} {tl : TE} (hl : PE X l tl) (h : X.K = K := by rfl) : PI X tg l (iTup K tl) := by subst h; exact L2.pi_tup hl
theorem pi_seq {tg l : Expr} {tl : TE} (hl : PE X l tl) (h : X.K = K := by rfl) : PI X tg l (iSeq K tl) := by subst h; exact DL.pi_seq hl
theorem pe_fld {e : Expr} {ta : TE} {f : Str} {pos : Pos} (he : PE X e ta) (h : X.K = K := by rfl) (hb : attributeBase e f X.env (eval e X.env) = eval e X.env := by rfl) : PE X (.Attribute e f pos) (tFld K ta f) := by subst h; exact L2.pe_fld he hb
theorem pe_revL {e : Expr} {te : TE} {k : Nat} {p1 p2 p3 pos : Pos} (he : PE X e te) (h : X.K = K := by rfl) : PE X (.Subscript e (.Slice none none (some (.UnaryOp .USub (.Constant (.int 1) k p1) p2)) p3) pos) (tRevL K te) := by subst h; exact L2.pe_revL he
theorem pg_tup {es : List Expr} {k : Nat} {t : TGs} {n : Nat} {pos : Pos} (hc : X.calm = true) (ha : PGs X es t) (h : X.K = K := by rfl)
    (hn : (assignEach es X.env).length = n := by rfl) (hst : (assignEach es X.env).findIdx? (·.1) = none := by rfl) : PG X (.Tuple es k pos) (gTup K n t) := by subst h; exact L2.pg_tup hc ha hn hst
theorem pi_enum {e : Expr} {ta : TA} {p pos tpos : Pos} {elts : List Expr} {kk : Nat} (hg : Gl X "enumerate") (hm : X.mg "enumerate" = none) (ha : PA X [e] ta) (h : X.K = K := by rfl) (hs : starEach [e] X.env = [(false, eval e X.env)] := by rfl) :
    PI X (.Tuple elts kk tpos) (.Call (.Name "enumerate" p) [e] [] pos) (iEnum K ta) := by subst h; exact L2.pi_enum hg hm ha hs
theorem pi_zip {e e2 : Expr} {ta : TA} {p pos tpos : Pos} {elts : List Expr} {kk : Nat} (hg : Gl X "zip") (hm : X.mg "zip" = none) (ha : PA X [e, e2] ta) (h : X.K = K := by rfl)
    (hs : starEach [e, e2] X.env = (false, eval e X.env) :: starEach [e2] X.env := by rfl) (hpl : (backTo pos (starEach [e2] X.env)).any (·.1) = false := by rfl) :
    PI X (.Tuple elts kk tpos) (.Call (.Name "zip" p) [e, e2] [] pos) (RZ.iZipA K ta) := by subst h; exact RZ.pi_zipA hg hm ha hs hpl
end
end DK
namespace DL
open PySem PySem.Spec PyProof.Rows L2 DX
section
variable {c : Cn} {ς : Sta} {Φ : D → Sta → Prop} {Ψ : Psi}
/-- what comes of an outcome -/
inductive OutP (Φ : D → Sta → Prop) (X : XT) (ς : Sta) : Out → Prop
  | ret {d : D} (q : Φ d ς) : OutP Φ X ς (.ret d)
  | exc {C : Addr} {ns : List Str} {fs : List D} (q : X C ns fs ς) : OutP Φ X ς (.exc C ns fs)
/-- a call of a def that hangs on its arguments alone -/
theorem we_callF {n : Nat} {g : List D → Option Out} {E : XK} {ta : TA} {X : XT} (hE : XOk c E X) (h : WL c ta ς fun ds ς1 => ds.length = n ∧ ∃ o, g ds = some o ∧ OutP Φ X ς1 o) : WE c (tCall (SpS c.K n (spcF g)) [] E ta) ς Φ := by
  refine we_call hE fun σ k hh S Q z => h σ k hh S Q fun vs k' h' ds ς' S' e r ⟨h1, o, h2, h3⟩ => z vs k' h' ds ς' S' e r ⟨h1, ⟨o, h2⟩, fun d b q => ?_, fun C ns fs b q => ?_⟩
  · have e := h2.symm.trans q.1
    cases e
    cases h3 with
    | ret q => exact q
  · have e := h2.symm.trans q.1
    cases e
    cases h3 with
    | exc q => exact q
theorem we_callTF {n : Nat} {g : List D → Option Out} {W : WX} {ta : TA} {X : XT} (hE : XOkW c W X) (h : WL c ta ς fun ds ς1 => ds.length = n ∧ ∃ o, g ds = some o ∧ OutP Φ X ς1 o) : WE c (tCallS (SpS c.K n (spcF g)) (L2.WE W) ta) ς Φ := by
  refine we_callT hE fun σ k hh S Q z => h σ k hh S Q fun vs k' h' ds ς' S' e r ⟨h1, o, h2, h3⟩ => z vs k' h' ds ς' S' e r ⟨h1, ⟨o, h2⟩, fun d b q => ?_, fun C ns fs b q => ?_⟩
  · have e := h2.symm.trans q.1
    cases e
    cases h3 with
    | ret q => exact q
  · have e := h2.symm.trans q.1
    cases e
    cases h3 with
    | exc q => exact q
theorem co_ret {n : Nat} {g : List D → Option Out} {ds : List D} {X : XT} {d : D} (hl : ds.length = n) (hg : g ds = some (.ret d)) (q : Φ d ς) : ds.length = n ∧ ∃ o, g ds = some o ∧ OutP Φ X ς o := ⟨hl, _, hg, .ret q⟩
theorem co_exc {n : Nat} {g : List D → Option Out} {ds : List D} {X : XT} {C : Addr} {ns : List Str} {fs : List D} (hl : ds.length = n) (hg : g ds = some (.exc C ns fs)) (q : X C ns fs ς) : ds.length = n ∧ ∃ o, g ds = some o ∧ OutP Φ X ς o := ⟨hl, _, hg, .exc q⟩
theorem co_if {n : Nat} {g : List D → Option Out} {ds : List D} {X : XT} {p : Bool} {o1 o2 : Out} (hl : ds.length = n) (hg : g ds = some (if p = true then o1 else o2)) (q1 : p = true → OutP Φ X ς o1) (q2 : p = false → OutP Φ X ς o2) : ds.length = n ∧ ∃ o, g ds = some o ∧ OutP Φ X ς o := by
  refine ⟨hl, _, hg, ?_⟩
  cases p with
  | true => exact q1 rfl
  | false => exact q2 rfl
end
end DL
namespace DL
theorem brT2 {p q : Prop} {b : Bool} (h : b = true) (x : p) : (b = true → p) ∧ (b = false → q) := ⟨fun _ => x, fun z => by rw [h] at z; cases z⟩
theorem brF2 {p q : Prop} {b : Bool} (h : b = false) (x : q) : (b = true → p) ∧ (b = false → q) := ⟨fun z => (by rw [h] at z; cases z), fun _ => x⟩
theorem brT3 {p q : Prop} {b : Bool} (h : b = true) (x : p) : (b = false → q) ∧ (b = true → p) := ⟨fun z => (by rw [h] at z; cases z), fun _ => x⟩
theorem brF3 {p q : Prop} {b : Bool} (h : b = false) (x : q) : (b = false → q) ∧ (b = true → p) := ⟨fun _ => x, fun z => by rw [h] at z; cases z⟩
end DL
namespace DL
def dI : D → Int
  | .int i => i
  | _ => 0
end DL
namespace DL
open PySem
theorem szB {n : Nat} {p : Prop} (h : Nat.ble n 1000 = true) (q : p) : n ≤ sizeLine ∧ p := ⟨by rw [sizeLine_eq]; exact Nat.le_trans (Nat.le_of_ble_eq_true h) (by decide), q⟩
theorem szL {n : Nat} {p : Prop} (h : Nat.ble n 1000 = true) (q : p) : n < sizeLine ∧ p := ⟨by rw [sizeLine_eq]; exact Nat.lt_of_le_of_lt (Nat.le_of_ble_eq_true h) (by decide), q⟩
end DL
namespace DL
open PySem PySem.Spec PyProof.Rows L2
theorem wg_nm {c : Cn} {ς : Sta} {i : Nat} {d : D} {Φ : Sta → Prop} (hi : Nat.blt i ς.δ.length = true) (q : Φ { ς with δ := ς.δ.set i (some d) }) : WG c (gName i) d ς Φ := wg_name (Nat.blt_eq.mp hi) q
end DL
namespace DL
open PySem PySem.Spec PyProof.Rows L2
theorem rng_mem {lo : Int} {n : Nat} {d : D} (h : d ∈ rngD lo n) : ∃ x, d = .int x ∧ lo ≤ x ∧ x < lo + n := by
  obtain ⟨i, hi, e⟩ := List.mem_iff_getElem.mp h
  obtain ⟨e1, e2⟩ := rngD_get (lo := lo) (n := n) (i := i) (d := d) (by rw [List.getElem?_eq_getElem hi, e])
  exact ⟨_, e1, by omega, by omega⟩
theorem rng2_ok {i j : Int} {Q : List D → Prop} (h : -(2 ^ 62) ≤ i ∧ i < 2 ^ 62 ∧ -(2 ^ 62) ≤ j ∧ j < 2 ^ 62) (q : Q (rngD i (j - i).toNat)) : ∃ i' j' : Int, [D.int i, D.int j] = [.int i', .int j'] ∧ (-(2 ^ 62) ≤ i' ∧ i' < 2 ^ 62 ∧ -(2 ^ 62) ≤ j' ∧ j' < 2 ^ 62) ∧ Q (rngD i' (j' - i').toNat) := ⟨i, j, rfl, h, q⟩
theorem rng1_ok {j : Int} {Q : List D → Prop} (h1 : -(2 ^ 62) ≤ j) (h2 : j < 2 ^ 62) (q : Q (rngD 0 j.toNat)) : ∃ j' : Int, [D.int j] = [.int j'] ∧ -(2 ^ 62) ≤ j' ∧ j' < 2 ^ 62 ∧ Q (rngD 0 j'.toNat) := ⟨j, rfl, h1, h2, q⟩
theorem le_size {n : Nat} (h : n ≤ 16777216) : n ≤ sizeLine := by rw [sizeLine_eq]; exact h
theorem lt_size {n : Nat} (h : n < 16777216) : n < sizeLine := by rw [sizeLine_eq]; exact h
theorem mul_small {i j : Int} (h1 : -(2 ^ 64) < i) (h2 : i < 2 ^ 64) : CMul i j := .inl ⟨h1, h2⟩
end DL
namespace DL
open PySem PySem.Spec PyProof.Rows L2
theorem atI_nat {α : Type} {l : List α} {i : Nat} {x : α} (h : l[i]? = some x) : atI l (i : Int) = some x := by
  have hl : i < l.length := (List.getElem?_eq_some_iff.mp h).1
  have e : ixN l.length (i : Int) = some i := by
    unfold ixN
    rw [if_pos (by omega), if_pos (by omega)]
    rfl
  unfold atI
  rw [e]
  exact h
theorem atI_0 {α : Type} {l : List α} {x : α} : atI (x :: l) 0 = some x := atI_nat (i := 0) rfl
theorem atI_1 {α : Type} {l : List α} {x y : α} : atI (x :: y :: l) 1 = some y := atI_nat (i := 1) rfl
theorem atI_2 {α : Type} {l : List α} {x y z : α} : atI (x :: y :: z :: l) 2 = some z := atI_nat (i := 2) rfl
theorem atI_3 {α : Type} {l : List α} {x y z u : α} : atI (x :: y :: z :: u :: l) 3 = some u := atI_nat (i := 3) rfl
end DL
namespace DL
theorem parB {x y : D} {i j n : Nat} {P : D → D → Prop} (hi : Nat.blt i n = true) (hj : Nat.blt j n = true) (q : P x y) : ∃ d e, [x, y] = [d, e] ∧ i < n ∧ j < n ∧ P d e := ⟨x, y, rfl, Nat.blt_eq.mp hi, Nat.blt_eq.mp hj, q⟩
end DL

set_option Elab.async false
set_option linter.all false
set_option maxRecDepth 100000
set_option maxHeartbeats 4000000
/-! the stream of draws -/
namespace DL
open PySem PySem.Spec PyProof.Rows L2 DX
/-- within a def that draws: the stream's two lists are written at will -/
def wres (a l : Addr) : Res := ⟨fun z => z = a ∨ z = l, fun _ _ => True, fun _ _ _ _ h => h⟩
abbrev StM (a l : Addr) (cells : List Int) (x n m : Int) : List (Addr × MO) := [(a, .lst [.ref l, .int x, .int n, .int m]), (l, .lst (cells.map D.int))]
/-- a def whose first argument is the stream -/
def drawSpc (P : List D → Nat → Prop) (Q : List D → Nat → D → Nat → Prop) : Spc where
  pre := fun R ds b => ∃ a l as, R = strm a l ∧ ds = .ref a :: as ∧ P as b
  post := fun R ds b d b' => ∃ a as, ds = .ref a :: as ∧ Q as b d b'
section
variable {P : Program} {w : World} {K : PySem.W.Frag} {mg : Str → Option Value} {base : Heap}
theorem fn_strm {x qual : Str} {st : Stmt} {f : Addr} {fd : FuncData} {N ps : List Str} {k n : Nat} {Pr : List D → Nat → Prop} {Po : List D → Nat → D → Nat → Prop} (Fn : Fun K x qual st f fd) (S : FnScope N ps (defScope st)) (hn : ps.length = n)
    (hbody : ∀ (cdv : Value) (A : Around) (outer : List Env) (sh : Shared) (H : Hp) (E : XK), Room k (A.deeper (envOfC qual (defScope st) sh.heap.objs.size f cdv)) →
      ∃ t, PSs (cxOf (L2.CX P w) P w K mg base N qual (defScope st) f cdv A outer sh H E) (defBody st) t ∧
        ∀ (a l : Addr) (k0 : Hp) (as : List D) (b : Nat) (cells : List Int) (x nn m : Int), Pr as b → (D.ref a :: as).length = n → 0 ≤ nn → nn ≤ b → 0 ≤ m → m < 2147483647 →
          WS ⟨K, wres a l, k0, H, false, fun _ => none⟩ t { δ := startD N (.ref a :: as), m := StM a l cells x nn m, b := 0 }
            { nx := fun _ => False, rt := fun d ς => ∃ cells' x' n' m' b', ς.m = StM a l cells' x' n' m' ∧ 0 ≤ n' ∧ n' ≤ (b' : Nat) ∧ 0 ≤ m' ∧ m' < 2147483647 ∧ Po as b d b' }) :
    FnOk P w K mg base (L2.CX P w) (k + 1) f fd ps (SpS K n (drawSpc Pr Po)) := by
  refine Fn.okX S (fun vs H Q E h => by rw [h.1, hn]) fun cdv A outer sh H vs Q E hr h => ?_
  obtain ⟨t, ht, hw⟩ := hbody cdv A outer sh H E hr
  obtain ⟨hl, R, k0, ds, b, rl, e, hi, hW, ⟨a, l, as, rfl, rfl, hp⟩, hq, hx⟩ := h
  refine ⟨t, ht, ?_⟩
  obtain ⟨nal, cells, x, nn, m, ha, hlq, n1, n2, m1, m2⟩ := hi
  have hwa := hW a (.inl rfl)
  have hwl := hW l (.inr rfl)
  have S0 : SR ⟨K, wres a l, k0, H, false, fun _ => none⟩ { δ := startD N (.ref a :: as), m := StM a l cells x nn m, b := 0 } (L2.start N vs) k0 H := by
    refine ⟨Grow.refl e, trivial, hW, fun i d q => start_rep rl q, fun p hp => ?_, ?_, start_len rl.length, fun _ _ z => by cases z⟩
    · rcases List.mem_cons.mp hp with e1 | hp
      · subst e1
        exact ⟨hwa.1, .inr ⟨rfl, .inl rfl⟩, _, ha, .cons (.ref l) (.cons (.int x) (.cons (.int nn) (.cons (.int m) .nil)))⟩
      · have e1 := List.mem_singleton.mp hp
        subst e1
        exact ⟨hwl.1, .inr ⟨rfl, .inr rfl⟩, _, hlq, RepL.ofInts cells⟩
    · show [a, l].Nodup
      simp [nal]
  refine hw a l k0 as b cells x nn m hp (by rw [← rl.length, hl]) n1 n2 m1 m2 (L2.start N vs) k0 H S0 _ ⟨fun _ _ _ _ _ _ q => q.elim, fun _ _ _ _ _ _ q => q.elim, fun _ _ _ _ _ _ q => q.elim, fun v σ' k' h' d ς' S' _ r q => ?_⟩
  obtain ⟨cells', x', n', m', b', em, q1, q2, q3, q4, q5⟩ := q
  obtain ⟨_, _, va, ea, ra⟩ := S'.m (a, .lst [.ref l, .int x', .int n', .int m']) (by rw [em]; simp)
  obtain ⟨_, _, vl, el, rlq⟩ := S'.m (l, .lst (cells'.map D.int)) (by rw [em]; simp)
  have ea : h' a = some (.lst va) := ea
  have el : h' l = some (.lst vl) := el
  cases RepL.ints rlq
  cases ra with
  | cons r1 ra => cases r1; cases ra with
    | cons r2 ra => cases r2; cases ra with
      | cons r3 ra => cases r3; cases ra with
        | cons r4 ra => cases r4; cases ra; exact hq d b' ⟨a, as, rfl, q5⟩ v k' h' S'.g ⟨nal, cells', x', n', m', ea, el, q1, q2, q3, q4⟩ r
end
/-- a resource within the def's own one -/
structure SubR (c : Cn) (R1 : Res) : Prop where
  fr : c.fr = true
  w : ∀ a, R1.W a → c.R.W a
  i : ∀ b h, c.R.I b h → R1.I b h
  back : ∀ b b' h h', c.R.I b h → (∀ a o, ¬ R1.W a → h a = some o → h' a = some o) → R1.I b' h' → c.R.I b' h'
theorem SubR.self {c : Cn} (hf : c.fr = true) : SubR c c.R := ⟨hf, fun _ h => h, fun _ _ h => h, fun _ _ _ _ _ _ h => h⟩
section
variable {c : Cn} {ς : Sta} {Φ : D → Sta → Prop}
theorem we_callR {n : Nat} {s : Spc} {E : XK} {ta : TA} {X : XT} {R1 : Res} (V : SubR c R1) (hE : XOk c E X)
    (h : WL c ta ς fun ds ς1 => ds.length = n ∧ s.pre R1 ds ς1.b ∧ (∀ d b, s.post R1 ds ς1.b d b → Φ d { ς1 with b := b }) ∧ ∀ C ns fs b, s.exc R1 ds ς1.b C ns fs b → X C ns fs { ς1 with b := b }) : WE c (tCall (SpS c.K n s) [] E ta) ς Φ := fun σ k hh S Q z =>
  h σ k hh S _ fun vs k1 h1 ds ς1 S1 e1 r1 ⟨l, p1, p2, p3⟩ => by
    rw [List.append_nil]
    have wide : ∀ {k' h' : Hp} {b : Nat}, Grow R1.W k1 h1 k' h' → R1.I b h' → SR c { ς1 with b := b } σ k' h' := fun {k' h' b} g i =>
      S1.after (g.wide V.w) (V.back _ _ _ _ S1.i (fun a o nw q => g.hh a o nw q) i) V.fr
    refine ⟨by rw [r1.length, l], R1, k1, ds, ς1.b, r1, S1.kh, V.i _ _ S1.i, fun a z => ⟨S1.g.dj a (S1.w a (V.w a z)).1 (S1.w a (V.w a z)).2, S1.g.hd a (S1.w a (V.w a z)).2⟩, p1, fun d b q v k' h' g i r => ?_, fun C ns fs b q dd ws k' h' g i e r => ?_⟩
    · exact z v k' h' d _ (wide g i) (e1.trans g.kk) r (p2 d b q)
    · exact hE C ns fs dd ws σ k' h' _ (wide g i) e r (p3 C ns fs b q)
end
/-! ### the stream and tables of code objects -/
def strmT (a l : Addr) (Tb : List (Addr × Str)) : Res where
  W := fun z => z = a ∨ z = l ∨ ∃ q, (z, q) ∈ Tb
  I := fun b h => (a ≠ l ∧ StrmAt a l b h) ∧ LamX.Tabs Tb h
  st := fun b h h' st ⟨⟨nal, cells, x, n, m, h1, h2, h3⟩, t⟩ => ⟨⟨nal, cells, x, n, m, st _ _ (.inl (.inl rfl)) h1, st _ _ (.inl (.inr (.inl rfl))) h2, h3⟩, fun p hp => by
    obtain ⟨ps, e1, e2, e3⟩ := t p hp
    refine ⟨ps, st _ _ (.inl (.inr (.inr ⟨p.2, hp⟩))) e1, e2, fun pos cv hc => ?_⟩
    obtain ⟨c, q1, q2⟩ := e3 pos cv hc
    exact ⟨c, q1, st _ _ (.inr trivial) q2⟩⟩
theorem strmT_sub {c : Cn} {a l : Addr} {Tb : List (Addr × Str)} (hf : c.fr = true) (hR : c.R = strmT a l Tb) : SubR c (strm a l) := by
  refine ⟨hf, fun z hz => ?_, fun b h hi => ?_, fun b b' h h' hi k i => ?_⟩
  · rw [hR]
    rcases hz with e | e
    · exact .inl e
    · exact .inr (.inl e)
  · rw [hR] at hi
    exact hi.1
  · rw [hR] at hi ⊢
    refine ⟨i, fun p hp => ?_⟩
    obtain ⟨⟨nal, cells, x, n, m, h1, h2, h3⟩, t⟩ := hi
    obtain ⟨ps, e1, e2, e3⟩ := t p hp
    have nw : ∀ {z : Addr} {o : HO}, (∀ vs, o ≠ .lst vs) → h z = some o → ¬ (strm a l).W z := fun {z o} ne q w => by
      rcases w with w | w
      · rw [w, h1] at q
        exact ne _ (Option.some.inj q).symm
      · rw [w, h2] at q
        exact ne _ (Option.some.inj q).symm
    refine ⟨ps, k _ _ (nw (by nofun) e1) e1, e2, fun pos cv hc => ?_⟩
    obtain ⟨cc, q1, q2⟩ := e3 pos cv hc
    exact ⟨cc, q1, k _ _ (nw (fun vs z => by unfold LamX.CodeO at z; cases z) q2) q2⟩
theorem strmT_tab {c : Cn} {a l : Addr} {Tb : List (Addr × Str)} (hf : c.fr = true) (hR : c.R = strmT a l Tb) (k0 : ∀ a ps, c.k0 a ≠ some (.tbl ps)) (h0 : ∀ a ps, c.h0 a = some (.tbl ps) → c.R.W a) : TabR c Tb := by
  refine ⟨k0, h0, hf, fun b h hi => ?_, fun b h h' hi e t => ?_, fun b h z hi hz => ?_⟩
  · rw [hR] at hi
    exact hi.2
  · rw [hR] at hi ⊢
    obtain ⟨⟨nal, cells, x, n, m, h1, h2, h3⟩, _⟩ := hi
    exact ⟨⟨nal, cells, x, n, m, e _ _ h1 (by nofun), e _ _ h2 (by nofun), h3⟩, t⟩
  · rw [hR] at hi hz
    obtain ⟨⟨nal, cells, x, n, m, h1, h2, h3⟩, t⟩ := hi
    rcases hz with e | e | ⟨q, hq⟩
    · rw [e, h1]; simp
    · rw [e, h2]; simp
    · obtain ⟨ps, e1, _⟩ := t _ hq
      rw [e1]; simp
/-- the law's own start: the script's numbers into a stream -/
def spStart (K : PySem.W.Frag) : Sp := fun vs H Q _ => ∃ (a : Addr) (ns : List Int), vs = [.ref a] ∧ SqL K H a (ns.map V.int) ∧
  ∀ l s, H l = none → H s = none → l ≠ s → Q (.ref s) (upd (upd H l (.lst (ns.map V.int))) s (.lst [.ref l, .int 0, .int 0, .int 11]))
end DL

set_option Elab.async false
set_option linter.all false
set_option maxRecDepth 100000
set_option maxHeartbeats 4000000
namespace DL
open PySem PySem.Spec PyProof.Rows L2 DX
section
variable {c : Cn} {ς : Sta} {Φ : D → Sta → Prop} {Ψ : Psi} {a : Addr} {d0 d1 d2 d3 d : D} {Φ' : Sta → Prop}
theorem we_s0 (h0 : ς.δ[0]? = some (some (.ref a))) (hm : ς.m[0]? = some (a, .lst [d0, d1, d2, d3])) (q : Φ d0 ς) : WE c (tOp (rIxK c.K) (tVar 0) (tC (.int 0))) ς Φ :=
  we_ixM (j := 0) (we_var h0 ⟨rfl, we_int ⟨0, rfl, hm, atI_0, q⟩⟩)
theorem we_s1 (h0 : ς.δ[0]? = some (some (.ref a))) (hm : ς.m[0]? = some (a, .lst [d0, d1, d2, d3])) (q : Φ d1 ς) : WE c (tOp (rIxK c.K) (tVar 0) (tC (.int 1))) ς Φ :=
  we_ixM (j := 0) (we_var h0 ⟨rfl, we_int ⟨1, rfl, hm, atI_1, q⟩⟩)
theorem we_s2 (h0 : ς.δ[0]? = some (some (.ref a))) (hm : ς.m[0]? = some (a, .lst [d0, d1, d2, d3])) (q : Φ d2 ς) : WE c (tOp (rIxK c.K) (tVar 0) (tC (.int 2))) ς Φ :=
  we_ixM (j := 0) (we_var h0 ⟨rfl, we_int ⟨2, rfl, hm, atI_2, q⟩⟩)
theorem we_s3 (h0 : ς.δ[0]? = some (some (.ref a))) (hm : ς.m[0]? = some (a, .lst [d0, d1, d2, d3])) (q : Φ d3 ς) : WE c (tOp (rIxK c.K) (tVar 0) (tC (.int 3))) ς Φ :=
  we_ixM (j := 0) (we_var h0 ⟨rfl, we_int ⟨3, rfl, hm, atI_3, q⟩⟩)
theorem wg_s1 (hI : ∀ b h h', c.fr = false → c.R.I b h → c.R.I b h') (h0 : ς.δ[0]? = some (some (.ref a))) (hm : ς.m[0]? = some (a, .lst [d0, d1, d2, d3])) (q : Φ' { ς with m := ς.m.set 0 (a, .lst [d0, d, d2, d3]) }) : WG c (gSub (tVar 0) (tC (.int 1)) rSetL) d ς Φ' :=
  wg_sub (j := 0) (i := 1) hI (we_var h0 ⟨rfl, we_int ⟨1, rfl, rfl, hm, q⟩⟩)
theorem wg_s2 (hI : ∀ b h h', c.fr = false → c.R.I b h → c.R.I b h') (h0 : ς.δ[0]? = some (some (.ref a))) (hm : ς.m[0]? = some (a, .lst [d0, d1, d2, d3])) (q : Φ' { ς with m := ς.m.set 0 (a, .lst [d0, d1, d, d3]) }) : WG c (gSub (tVar 0) (tC (.int 2)) rSetL) d ς Φ' :=
  wg_sub (j := 0) (i := 2) hI (we_var h0 ⟨rfl, we_int ⟨2, rfl, rfl, hm, q⟩⟩)
theorem wg_s3 (hI : ∀ b h h', c.fr = false → c.R.I b h → c.R.I b h') (h0 : ς.δ[0]? = some (some (.ref a))) (hm : ς.m[0]? = some (a, .lst [d0, d1, d2, d3])) (q : Φ' { ς with m := ς.m.set 0 (a, .lst [d0, d1, d2, d]) }) : WG c (gSub (tVar 0) (tC (.int 3)) rSetL) d ς Φ' :=
  wg_sub (j := 0) (i := 3) hI (we_var h0 ⟨rfl, we_int ⟨3, rfl, rfl, hm, q⟩⟩)
theorem toPy_ints : ∀ ns : List Int, toPyL (ns.map D.int) = ns.map PyData.int
  | [] => rfl
  | n :: ns => by
    show _ :: _ = _
    rw [toPy_ints ns]
    rfl
theorem shaped_ints (ns : List Int) : SeqAt.shaped (D.lst (ns.map D.int)).toPy = true := by
  show SeqAt.shaped (.list (toPyL (ns.map D.int))) = true
  rw [toPy_ints]
  induction ns with
  | nil => rfl
  | cons n ns ih => exact ih
/-- the stream's numbers are none -/
theorem we_sne {l : Addr} {cells : List Int} {te : TE} (h : WE c te ς fun x ς1 => x = .ref l ∧ ς1.m[1]? = some (l, .lst (cells.map D.int)) ∧ Φ (.bl (!cells.isEmpty)) ς1) : WE c (tOp (rNeK c.K) te (tLst tNil)) ς Φ :=
  we_neM (j := 1) fun σ k hh S Q z => h σ k hh S Q fun v k' h' x ς' S' e r ⟨h1, h2, h3⟩ => z v k' h' x ς' S' e r ⟨h1, we_lst (wl_nil (szB rfl ⟨h2, shaped_ints _, rfl, by
    have e : (!PyData.eqv (D.lst (cells.map D.int)).toPy (D.lst []).toPy) = !cells.isEmpty := by
      show (!PyData.eqv (.list (toPyL (cells.map D.int))) (.list [])) = _
      cases cells <;> rfl
    rw [e]
    exact h3⟩))⟩
theorem we_spop {l : Addr} {cc : Int} {cells : List Int} {te : TE} (hI : ∀ b h h', c.fr = false → c.R.I b h → c.R.I b h') (h : WE c te ς fun x ς1 => x = .ref l ∧ ς1.m[1]? = some (l, .lst ((cc :: cells).map D.int)) ∧ Φ (.int cc) { ς1 with m := ς1.m.set 1 (l, .lst (cells.map D.int)) }) :
    WE c (tBM c.K "list" rPopAt te (tCons (tC (.int 0)) tNil)) ς Φ :=
  we_pop (j := 1) (i := 0) hI fun σ k hh S Q z => h σ k hh S Q fun v k' h' x ς' S' e r ⟨h1, h2, h3⟩ => z v k' h' x ς' S' e r ⟨h1, ⟨_, h2⟩, we_int ⟨rfl, by decide, h2, rfl, h3⟩⟩
end
end DL

set_option Elab.async false
set_option linter.all false
set_option maxRecDepth 100000
set_option maxHeartbeats 4000000
namespace DL
open PySem PySem.Spec PyProof.Rows L2 DX
/-! ### {} -/
section
variable {c : Cn} {ς : Sta} {Φ : D → Sta → Prop} {K : PySem.W.Frag} {Φ' : D → Prop}
theorem we_dnew (q : Φ (.dct [] []) ς) : WE c tDNewK ς Φ := fun σ k h S Q z p hp => by
  have g : Grow No k h (upd k p (.dK [])) (upd h p (.dK [])) := Grow.new S.kh hp (by nofun)
  exact z _ _ _ _ ς (S.grow g) g.kk (.dct (kvs := []) upd_same rfl .nil) q
def rDctP (K : PySem.W.Frag) : List V → Hp → VK → Prop := fun xs H Q => ∃ (a : Addr) (ps : List Addr) (kvs : List (Key × V)), xs = [.ref a] ∧ SqL K H a (ps.map V.ref) ∧ Paired (fun p kv => SqT K H p [kV kv.1, kv.2]) ps kvs ∧
    ∀ p, H p = none → Q (.ref p) (upd H p (.dK (mergeK [] kvs)))
theorem call_dctP {X : Cx} (h : X.K = K := by rfl) (hc : X.calm = true := by rfl) : CallR X (.type "dict") (rDctP K) := by subst h; exact call_dictP hc
theorem rc_dct0 (q : Φ' (.dct [] [])) : RC K (rDctP K) [.lst []] Φ' := fun k h vs e r Q z => by
  cases r with
  | cons r1 r2 =>
    cases r2
    cases r1 with
    | lst h1 r1 =>
      cases r1
      refine ⟨_, [], [], rfl, SqL.of (e _ _ h1), .nil, fun p n => ?_⟩
      have g : Grow No k h (upd k p (.dK [])) (upd h p (.dK [])) := Grow.new e n (by nofun)
      exact z _ _ _ _ g (.dct (kvs := []) upd_same rfl .nil) q
theorem rd_eq_dct0 (q : Φ' (.bl true)) : RD K (rEqK K) (.dct [] []) (.dct [] []) Φ' := fun k h v1 v2 e r1 r2 Q z => by
  cases r1 with
  | dct e1 m1 _ => cases r2 with
    | dct e2 m2 _ =>
      cases List.map_eq_nil_iff.mp m1
      cases List.map_eq_nil_iff.mp m2
      exact .inr (.inr ⟨_, _, [], rfl, rfl, e _ _ e1, e _ _ e2, List.nodup_nil, fun p hp => absurd hp (by simp), z _ k h _ (Grow.refl e) (.bl _) q⟩)
def isKs (d : D) (ns : List String) : Option Bool := (tyN d).map fun s => ns.any fun n => isB s n
theorem we_isiLT {te : TE} (h : WE c te ς fun d ς1 => ∃ r, isKs d ["list", "tuple"] = some r ∧ Φ (.bl r) ς1) : WE c (tCB (rIsiT c.K) (tCons te (tCons (tTup (tCons (tC (.ty "list")) (tCons (tC (.ty "tuple")) tNil))) tNil))) ς Φ :=
  we_isiT (ns := ["list", "tuple"]) (by simp [Knd]) (by decide) fun σ k hh S Q z => h σ k hh S Q fun v k' h' d ς' S' e r ⟨b, h1, h2⟩ => by
    obtain ⟨s, e1, e2⟩ := Option.map_eq_some_iff.mp h1
    exact z v k' h' d ς' S' e r ⟨s, e1, by rw [e2]; exact h2⟩
theorem we_isiILT {te : TE} (h : WE c te ς fun d ς1 => ∃ r, isKs d ["int", "list", "tuple"] = some r ∧ Φ (.bl r) ς1) : WE c (tCB (rIsiT c.K) (tCons te (tCons (tTup (tCons (tC (.ty "int")) (tCons (tC (.ty "list")) (tCons (tC (.ty "tuple")) tNil)))) tNil))) ς Φ :=
  we_isiT (ns := ["int", "list", "tuple"]) (by simp [Knd]) (by decide) fun σ k hh S Q z => h σ k hh S Q fun v k' h' d ς' S' e r ⟨b, h1, h2⟩ => by
    obtain ⟨s, e1, e2⟩ := Option.map_eq_some_iff.mp h1
    exact z v k' h' d ς' S' e r ⟨s, e1, by rw [e2]; exact h2⟩
theorem wi_seqV {i : Nat} {d : D} {l : List D} {Ψ : List D → Sta → Prop} (h0 : ς.δ[i]? = some (some d)) (hs : seqOf d = some l) (q : Ψ l ς) : WI c (iSeq c.K (tVar i)) ς Ψ := by
  cases d <;> cases hs
  · exact wi_seqL (we_var h0 ⟨_, rfl, q⟩)
  · exact wi_seqT (we_var h0 ⟨_, rfl, q⟩)
/-- a comprehension over {} -/
theorem we_lcD0 {i : Nat} {g : TG} {tt : TT} {te : TE} {vs : List Nat} (h0 : ς.δ[i]? = some (some (.dct [] []))) (q : Φ (.lst []) ς) : WE c (tLockE (tLc (iKeys (tVar i)) g tt te vs)) ς Φ := fun σ k h S Q z => by
  obtain ⟨v, hv, rv⟩ := S.s i _ h0
  cases rv with
  | dct ek en er =>
    cases List.map_eq_nil_iff.mp en
    rename_i a
    have ha : h a = some (.dK []) := S.kh _ _ ek
    refine ⟨a, .dK [], ha, trivial, fun od => ⟨_, hv, a, od, rfl, .inl ⟨[], upd_same, fun L nL => ?_⟩⟩⟩
    have na : L ≠ a := fun e => by rw [e, upd_same] at nL; cases nL
    have nL' : h L = none := by rw [upd_ne na] at nL; exact nL
    refine ⟨fun i m H => i = 0 ∧ H = upd (upd h a (.frz od (.dK []))) L (.lst []), ⟨0, rfl, rfl⟩, ?_⟩
    rintro i m H ⟨rfl, rfl⟩
    refine .inl ⟨⟨?_, Nat.le_refl _⟩, ?_, ?_⟩
    · rw [upd_ne (Ne.symm na), upd_same]
    · rw [upd_ne (Ne.symm na), upd_same]
    · have e : upd (upd (upd h a (.frz od (.dK []))) L (.lst [])) a (.dK []) = upd h L (.lst []) := by
        funext b
        by_cases hb : b = a
        · rw [hb, upd_same, upd_ne (Ne.symm na), ha]
        · rw [upd_ne hb]
          by_cases hl : b = L
          · rw [hl, upd_same, upd_same]
          · rw [upd_ne hl, upd_ne hb, upd_ne hl]
      rw [e]
      have g : Grow No k h (upd k L (.lst [])) (upd h L (.lst [])) := Grow.new S.kh nL' (by nofun)
      exact z _ _ _ _ ς (S.grow g) g.kk (.lst (vs := []) upd_same .nil) q
end
end DL
namespace DL
open PySem PySem.Spec PyProof.Rows L2 DX
section
variable {c : Cn} {Ψ : Psi} {Xo : XT} {C : Addr} {ns : List Str} {f : Str} {fs : List D} {ς : Sta} {cv : Value} {oi : Option Nat} {ts : Addr → Value → Option Addr → TS} {l : List HC}
theorem hnd_skip (e : PySem.W.exmOne c.K (.ref C) cv = some false) (r : HndOk c Ψ Xo C ns fs ς l) : HndOk c Ψ Xo C ns fs ς ((cv, oi, ts) :: l) := ⟨false, e, fun z => (nomatch z), fun _ => r⟩
theorem hnd_take {i : Nat} (e : PySem.W.exmOne c.K (.ref C) cv = some true) (r : ∀ a x, WS c (ts a (.ref C) (some x)) { ς with δ := ς.δ.set i (some (.exc a x C (f :: ns) fs)) } { nx := fun ς => Ψ.nx { ς with δ := ς.δ.set i none }, rt := Ψ.rt, bk := fun ς => Ψ.bk { ς with δ := ς.δ.set i none }, ct := fun ς => Ψ.ct { ς with δ := ς.δ.set i none } }) :
    HndOk c Ψ Xo C (f :: ns) fs ς ((cv, some i, ts) :: l) := ⟨true, e, fun _ => ⟨fun a x _ => r a x, fun z => (nomatch z)⟩, fun z => (nomatch z)⟩
theorem hnd_take0 (e : PySem.W.exmOne c.K (.ref C) cv = some true) (r : ∀ a, WS c (ts a (.ref C) none) ς Ψ) : HndOk c Ψ Xo C [] fs ς ((cv, none, ts) :: l) :=
  ⟨true, e, fun _ => ⟨fun a x z => absurd rfl z, fun _ a => r a⟩, fun z => (nomatch z)⟩
/-- a clause without a name for an exception with fields -/
theorem hnd_takeN (e : PySem.W.exmOne c.K (.ref C) cv = some true) (r : ∀ a x, WS c (ts a (.ref C) (some x)) ς Ψ) : HndOk c Ψ Xo C (f :: ns) fs ς ((cv, none, ts) :: l) :=
  ⟨true, e, fun _ => ⟨fun a x _ => r a x, fun z => (nomatch z)⟩, fun z => (nomatch z)⟩
end
end DL

set_option Elab.async false
set_option linter.all false
set_option maxRecDepth 100000
set_option maxHeartbeats 4000000
namespace DL
open PySem PySem.Spec PyProof.Rows L2 DX
/-! ### the law's own state behind its start -/
abbrev lawC (K : PySem.W.Frag) (s l tL : Addr) (q : Str) (h : Hp) : Cn := ⟨K, strmT s l [(tL, q)], fun _ => none, fun z => if z = s ∨ z = l ∨ z = tL then h z else none, true, fun _ => none⟩
theorem lawC_tab {K : PySem.W.Frag} {s l tL : Addr} {q : Str} {h : Hp} {vs us : List V} (hs : h s = some (.lst vs)) (hl : h l = some (.lst us)) : TabR (lawC K s l tL q h) [(tL, q)] := by
  refine strmT_tab rfl rfl (fun a ps z => by cases z) fun a ps z => ?_
  have z : (if a = s ∨ a = l ∨ a = tL then h a else none) = some (.tbl ps) := z
  split at z
  · rename_i hc
    rcases hc with e | e | e
    · exact .inl e
    · exact .inr (.inl e)
    · exact .inr (.inr ⟨q, by rw [e]; exact List.mem_singleton.mpr rfl⟩)
  · cases z
theorem law_sr {K : PySem.W.Frag} {H : Hp} {l s tL : Addr} {q : Str} {ns : List Int} {σ : L2.St} {δ : List (Option D)} (hl : H l = none) (hs : H s = none) (hne : l ≠ s) (ht : H tL = some (.tbl #[])) (hσ : ∀ (i : Nat) (d : D), δ[i]? = some (some d) → d = .ref s ∧ σ[i]? = some (some (V.ref s))) (hlen : δ.length = σ.length) :
    SR (lawC K s l tL q (upd (upd H l (.lst (ns.map V.int))) s (.lst [.ref l, .int 0, .int 0, .int 11]))) { δ := δ, b := 0 } σ (fun _ => none) (upd (upd H l (.lst (ns.map V.int))) s (.lst [.ref l, .int 0, .int 0, .int 11])) := by
  have tl : tL ≠ l := fun e => by rw [e, hl] at ht; cases ht
  have ts : tL ≠ s := fun e => by rw [e, hs] at ht; cases ht
  have e1 : upd (upd H l (.lst (ns.map V.int))) s (.lst [.ref l, .int 0, .int 0, .int 11]) s = some (.lst [.ref l, .int 0, .int 0, .int 11]) := upd_same
  have e2 : upd (upd H l (.lst (ns.map V.int))) s (.lst [.ref l, .int 0, .int 0, .int 11]) l = some (.lst (ns.map V.int)) := by rw [upd_ne hne, upd_same]
  have e3 : upd (upd H l (.lst (ns.map V.int))) s (.lst [.ref l, .int 0, .int 0, .int 11]) tL = some (.tbl #[]) := by rw [upd_ne ts, upd_ne tl]; exact ht
  refine ⟨⟨Same.refl _, fun _ _ z => (nomatch z), fun z o _ hz => ?_, fun z hz => ?_, fun _ z _ => z, fun _ _ z => (nomatch z)⟩, ⟨⟨hne.symm, ns, 0, 0, 11, e1, e2, by omega, by simp, by omega, by omega⟩, fun p hp => ?_⟩, fun z hz => ⟨rfl, ?_⟩, fun i d hi => ?_, fun p hp => absurd hp (by simp), List.nodup_nil, hlen, fun _ _ z => (nomatch z)⟩
  · have hz : (if z = s ∨ z = l ∨ z = tL then _ else none) = some o := hz
    split at hz
    · exact hz
    · cases hz
  · have hz : (if z = s ∨ z = l ∨ z = tL then _ else none) ≠ none := hz
    split at hz
    · exact hz
    · exact absurd rfl hz
  · rw [List.mem_singleton.mp hp]
    exact LamX.TabS.nil e3
  · show (if z = s ∨ z = l ∨ z = tL then _ else none) ≠ none
    rcases hz with e | e | ⟨q', hq⟩
    · rw [if_pos (.inl e), e, e1]; simp
    · rw [if_pos (.inr (.inl e)), e, e2]; simp
    · have e : z = tL := congrArg Prod.fst (List.mem_singleton.mp hq)
      rw [if_pos (.inr (.inr e)), e, e3]; simp
  · obtain ⟨rfl, h2⟩ := hσ i d hi
    exact ⟨_, h2, .ref s⟩
theorem enter {c : Cn} {ts : TS} {ς : Sta} {Ψ : Psi} {σ : L2.St} {k h : Hp} {E1 : Ends} (w : WS c ts ς Ψ) (S : SR c ς σ k h) (e : EndOk c k Ψ E1) : ts E1 σ h := w σ k h S E1 e
/-- draws -/
abbrev drawS : Spc := drawSpc (fun as b => ∃ n : Int, as = [.int n] ∧ 0 < n ∧ n ≤ 1000000 ∧ b ≤ 1000000000000) (fun as b d b' => ∃ n x : Int, as = [.int n] ∧ d = .int x ∧ 0 ≤ x ∧ x < n ∧ b' = b + 1)
abbrev pickS : Spc := drawSpc (fun as b => ∃ l : List D, as = [.lst l] ∧ 0 < l.length ∧ l.length ≤ 1000000 ∧ b ≤ 1000000000000) (fun as b d b' => ∃ l : List D, as = [.lst l] ∧ d ∈ l ∧ b' = b + 1)
section
variable {c : Cn} {ς : Sta} {Φ : D → Sta → Prop} {s l : Addr} {E : XK}
theorem we_draw {n : Int} {j : Nat} (V : SubR c (strm s l)) (h0 : ς.δ[j]? = some (some (.ref s))) (h1 : 0 < n) (h2 : n ≤ 1000000) (hb : ς.b ≤ 1000000000000) (q : ∀ x, 0 ≤ x → x < n → Φ (.int x) { ς with b := ς.b + 1 }) :
    WE c (tCall (SpS c.K 2 drawS) [] E (tCons (tVar j) (tCons (tC (.int n)) tNil))) ς Φ := by
  refine we_callR V (X := fun _ _ _ _ => False) xok0 (wl_cons (we_var h0 (wl_cons (we_int (wl_nil ⟨rfl, ⟨s, l, _, rfl, rfl, n, rfl, h1, h2, hb⟩, ?_, fun _ _ _ _ z => z⟩)))))
  rintro d b ⟨a, as, e, n', x, e2, rfl, x1, x2, rfl⟩
  cases e
  cases e2
  exact q x x1 x2
theorem we_pick {j : Nat} {te : TE} (V : SubR c (strm s l)) (h0 : ς.δ[j]? = some (some (.ref s))) (h : WE c te ς fun d ς1 => ∃ ll, d = .lst ll ∧ 0 < ll.length ∧ ll.length ≤ 1000000 ∧ ς1.b ≤ 1000000000000 ∧ ∀ x ∈ ll, Φ x { ς1 with b := ς1.b + 1 }) :
    WE c (tCall (SpS c.K 2 pickS) [] E (tCons (tVar j) (tCons te tNil))) ς Φ := by
  refine we_callR V (X := fun _ _ _ _ => False) xok0 (wl_cons (we_var h0 (wl_cons fun σ k hh S Q z => h σ k hh S Q fun v k' h' d ς' S' e r ⟨ll, ed, h1, h2, h3, h4⟩ => z v k' h' d ς' S' e r (wl_nil ⟨rfl, ⟨s, l, _, rfl, rfl, ll, by rw [ed], h1, h2, h3⟩, ?_, fun _ _ _ _ z => z⟩))))
  rintro d' b ⟨a, as, e, ll', e2, x1, rfl⟩
  cases e
  subst ed
  cases e2
  exact h4 d' x1
end
end DL
namespace DL
open PySem PySem.Spec PyProof.Rows L2 DX
section
variable {c : Cn} {ς : Sta} {Ψ : Psi}
theorem ws_cut {a t : TS} (M : Sta → Prop) (h1 : WS c a ς { Ψ with nx := M }) (h2 : ∀ ς', M ς' → WS c t ς' Ψ) : WS c (tSeq a t) ς Ψ := ws_seq (ws_mono h1 (fun ς' z => h2 ς' z) (fun _ _ z => z) (fun _ z => z) fun _ z => z)
theorem ws_cut2 {a b t : TS} (M : Sta → Prop) (h1 : WS c (tSeq a b) ς { Ψ with nx := M }) (h2 : ∀ ς', M ς' → WS c t ς' Ψ) : WS c (tSeq a (tSeq b t)) ς Ψ := fun σ k h S E1 z =>
  (ws_cut (a := tSeq a b) (t := t) M h1 h2) σ k h S E1 z
end
end DL
namespace DL
open PySem PySem.Spec PyProof.Rows L2 DX
/-- the law's slots behind its start -/
def law_δ (st : Addr) (n : Nat) : List (Option D) := none :: some (.ref st) :: List.replicate n none
theorem law_slots {a st : Addr} {N : List Str} {n : Nat} (hN : N.length = n + 2) : (∀ (i : Nat) (d : D), (law_δ st n)[i]? = some (some d) → d = .ref st ∧ ((L2.start N [.ref a]).set 1 (some (V.ref st)))[i]? = some (some (V.ref st))) ∧ (law_δ st n).length = ((L2.start N [.ref a]).set 1 (some (V.ref st))).length := by
  have hlen : (L2.start N [V.ref a]).length = n + 2 := by
    unfold L2.start
    simp
    omega
  refine ⟨fun i d hi => ?_, by unfold law_δ; rw [List.length_set, hlen]; simp⟩
  match i, hi with
  | 0, hi => cases hi
  | 1, hi =>
    cases hi
    exact ⟨rfl, by rw [List.getElem?_set_self (by rw [hlen]; omega)]⟩
  | i + 2, hi =>
    have hi : (List.replicate n (none : Option D))[i]? = some (some d) := hi
    rw [List.getElem?_replicate] at hi
    split at hi <;> cases hi
end DL

set_option Elab.async false
set_option linter.all false
set_option maxRecDepth 100000
set_option maxHeartbeats 4000000
/-! own classes: made, methods called, own operators, isinstance -/
namespace DL
open PySem PySem.Spec PyProof.Rows L2
section
variable {X : Cx} {E : XK} {x m : Str} {C : Addr} {k j : Nat} {sp : Sp} {e o : Expr} {es : List Expr} {t : TA} {to : TE} {p apos pos : Pos}
/-- C(..) -/
theorem pe_mkx (c : MakX X.prog X.w X.K X.mg X.base k x C sp) (hr : Room j X.A) (hk : k + 1 ≤ j) (hg : Gl X x) (hx : Passes (L2.CX X.prog X.w) X E) (ha : PA X (e :: es) t)
    (hdb : (x == ("__debug__" : Str)) = false := by decide) (hs : starEach (e :: es) X.env = (false, eval e X.env) :: starEach es X.env := by rfl) (hpl : (backTo pos (starEach es X.env)).any (·.1) = false := by rfl) :
    PE X (.Call (.Name x p) (e :: es) [] pos) (tMake C sp [] E t) := by
  obtain ⟨f, fd, ps, M, F, hm, hb⟩ := c.ex
  exact pe_make M F (hr.mono hk) hg hm hb .nil hx ha hdb hs hpl
/-- o.m(..) -/
theorem pe_mtx {pl : Sem Bool} (he : PE X o to) (c : MetX X.prog X.w X.K X.mg X.base k C m sp) (hr : Room j X.A) (hk : k ≤ j) (hx : Passes (L2.CX X.prog X.w) X E) (ha : PA X (e :: es) t)
    (hst : starEach (e :: es) X.env = (false, eval e X.env) :: starEach es X.env := by rfl) (hpl : (backTo pos (starEach es X.env)).any (·.1) = false := by rfl)
    (ht : eval (.Call (.Attribute o m apos) (e :: es) [] pos) X.env = (do
      let ov ← eval o X.env
      standAt apos.atName
      let (f, first) ← holding [ov] (getMethod ov m pl)
      callWith pos f first (backTo pos (starEach (e :: es) X.env)) (backToKw pos (keywordEach [] X.env))) := by rfl) :
    PE X (.Call (.Attribute o m apos) (e :: es) [] pos) (tMeth C m sp [] E to t) := by
  obtain ⟨f, fd, ps, cl, hm, F, hb⟩ := c.ex
  exact pe_meth he cl hm F (hr.mono hk) hb .nil hx ha hst hpl ht
theorem pe_mtx0 {pl : Sem Bool} (he : PE X o to) (c : MetX X.prog X.w X.K X.mg X.base k C m sp) (hr : Room j X.A) (hk : k ≤ j) (hx : Passes (L2.CX X.prog X.w) X E)
    (ht : eval (.Call (.Attribute o m apos) [] [] pos) X.env = (do
      let ov ← eval o X.env
      standAt apos.atName
      let (f, first) ← holding [ov] (getMethod ov m pl)
      callWith pos f first (backTo pos (starEach [] X.env)) (backToKw pos (keywordEach [] X.env))) := by rfl) :
    PE X (.Call (.Attribute o m apos) [] [] pos) (tMeth C m sp [] E to tNil) := by
  obtain ⟨f, fd, ps, cl, hm, F, hb⟩ := c.ex
  exact pe_meth0 he cl hm F (hr.mono hk) hb .nil hx ht
end
/-! ### own operators -/
section
variable {X : Cx} {E : XK} {C : Addr} {k j : Nat} {sp : Sp}
/-- x == y, by x's own def -/
def rEqI (K : PySem.W.Frag) (C : Addr) (sp : Sp) (E : XK) : R2 := fun x y H Q => ∃ a dx fs tb, x = .ref a ∧ H a = some (.ins C dx fs) ∧ TyX K H y tb ∧ PySem.W.notFirst K C tb = true ∧ sp [x, y] H Q E
theorem op_eqI (c : MetX X.prog X.w X.K X.mg X.base k C "__eq__" sp) (hr : Room j X.A) (hk : k ≤ j) (hx : Passes (L2.CX X.prog X.w) X E) : OpR X (compareOp .Eq) (rEqI X.K C sp E) := by
  intro pins s σ H x y v u Q I rx ry h
  obtain ⟨f, fd, ps, cl, hm, F, hb⟩ := c.ex
  obtain ⟨a, dx, fs, tb, rfl, ha, ty, hn, q⟩ := h
  cases (show v = Value.ref a from rx)
  obtain ⟨mA, O, _⟩ := ins_get I.hok ha
  obtain ⟨od, J, _⟩ := O.look
  obtain ⟨Pk, Z, pz, _⟩ := kit_of I ry ty
  obtain ⟨m, hF⟩ := I.fr
  refine PySem.W.cmp_K (op := .Eq) (tb := tb) hr.units0 hF I.ok.mod.kin J (Z.ty _ _ I.kIn pz) hn hm.at_ hm.fn ?_
  refine wpAny_mono (run_fn (us := [.ref a, u]) (vs := [.ref a, y]) F (hr.mono hk) hb .nil hx I (.cons rfl (.cons ry .nil)) q) (fun w s' z => ?_) fun _ _ x => x
  obtain ⟨z', H', I', rz, qz⟩ := z
  exact SlX.cmpback rz ⟨z', H', I', rz, qz⟩
/-- x + y and the like -/
def rBinI (C : Addr) (sp : Sp) (E : XK) : R2 := fun x y H Q => ∃ a dx fs b dy gs, x = .ref a ∧ y = .ref b ∧ H a = some (.ins C dx fs) ∧ H b = some (.ins C dy gs) ∧ sp [x, y] H Q E
theorem op_binI {op : Operator} {nm : Str} (hop : PySem.dunder op.info.2 = nm) (c : MetX X.prog X.w X.K X.mg X.base k C nm sp) (hc : PySem.W.selfFirst X.K C = true) (hr : Room j X.A) (hk : k ≤ j) (hx : Passes (L2.CX X.prog X.w) X E) : OpR X (binaryOp op) (rBinI C sp E) := by
  intro pins s σ H x y v u Q I rx ry h
  obtain ⟨f, fd, ps, cl, hm, F, hb⟩ := c.ex
  obtain ⟨a, dx, fs, b, dy, gs, rfl, rfl, ha, hb', q⟩ := h
  cases (show v = Value.ref a from rx)
  cases (show u = Value.ref b from ry)
  obtain ⟨mA, O, _⟩ := ins_get I.hok ha
  obtain ⟨od, J, _⟩ := O.look
  obtain ⟨mB, O', _⟩ := ins_get I.hok hb'
  obtain ⟨od', J', _⟩ := O'.look
  obtain ⟨m, hF⟩ := I.fr
  refine PySem.W.binop_K (op := op) hF I.ok.mod.kin J J'.type hc (by rw [hop]; exact hm.at_) hm.fn ?_
  refine wpAny_mono (run_fn (us := [.ref a, .ref b]) (vs := [.ref a, .ref b]) F (hr.mono hk) hb .nil hx I (.cons rfl (.cons rfl .nil)) q) (fun w s' z => ?_) fun _ _ x => x
  obtain ⟨z', H', I', rz, qz⟩ := z
  exact SlX.cmpback rz ⟨z', H', I', rz, qz⟩
/-- what x != y asks of a class with an own __eq__ alone -/
structure NeC (K : PySem.W.Frag) (C : Addr) : Prop where
  ex : ∃ nm q N bs sn sub ab col dd k0 k1 k2 k3 k5 newId, K.lookup C = some (excClassObj nm q C N bs [.type "object"] true sn sub ab col dd k0 k1 k2 k3 k5 newId) ∧ PySem.W.nsOkIn K N = true ∧ PySem.W.nsIn K N "__ne__" = some none ∧ ∃ f, PySem.W.nsIn K N "__eq__" = some (some (.ref f)) ∧ PySem.W.findIn K (.ref C) "__eq__" = some (some (.ref f)) ∧ ∃ oc, K.lookup f = some oc ∧ oc.cls = .type "function"
theorem ns_at {K : PySem.W.Frag} {h : Heap} {N : Addr} {x : Str} {v : Value} (X : K.In h) {m : Str → Option Value} (G : h.Ns N m) (e : PySem.W.nsIn K N x = some (some v)) : m x = some v := by
  obtain ⟨o, es, ep, ho, hd, _, hf⟩ := G
  unfold PySem.W.nsIn at e
  split at e
  · rename_i ho2
    have e2 := X _ _ ho2
    rw [ho] at e2
    cases e2
    cases hd
    split at e
    · rename_i en he
      cases e
      rw [← hf]
      unfold nsFind findBy
      rw [← Array.find?_toList, he]
      rfl
    · split at e <;> cases e
  · cases e
def rNeI (C : Addr) (sp : Sp) (E : XK) : R2 := fun x y H Q => ∃ a dx fs b dy gs, x = .ref a ∧ y = .ref b ∧ H a = some (.ins C dx fs) ∧ H b = some (.ins C dy gs) ∧ sp [x, y] H (fun v H' => ∃ b, v = .bl b ∧ Q (.bl (!b)) H') E
theorem op_neI (c : MetX X.prog X.w X.K X.mg X.base k C "__eq__" sp) (n : NeC X.K C) (hr : Room j X.A) (hk : k + 1 ≤ j) (hx : Passes (L2.CX X.prog X.w) X E) : OpR X (compareOp .NotEq) (rNeI C sp E) := by
  intro pins s σ H x y v u Q I rx ry h
  obtain ⟨f, fd, ps, cl, hm, F, hb⟩ := c.ex
  obtain ⟨a, dx, fs, b, dy, gs, rfl, rfl, ha, hb', q⟩ := h
  cases (show v = Value.ref a from rx)
  cases (show u = Value.ref b from ry)
  obtain ⟨mA, O, _⟩ := ins_get I.hok ha
  obtain ⟨mB, O', _⟩ := ins_get I.hok hb'
  obtain ⟨nm, qn, N, bs, sn, sub, ab, col, dd, k0, k1, k2, k3, k5, newId, lC, okN, nNe, f', nEq, fEq, of, lf, cf⟩ := n.ex
  have ef : f' = f := by
    have := fEq.symm.trans hm.at_
    cases this
    rfl
  subst ef
  have KX := I.kIn
  have G := Heap.Ns.of_isNs (PySem.W.isNs_of_in KX okN)
  have Y : s.heap.OwnEqNoNe a C f' "object" [.type "object"] :=
    ⟨_, of, nm, qn, N, bs, true, sn, sub, ab, col, dd, k0, k1, k2, k3, k5, newId, _, _, O.obj, rfl, KX _ _ lC, G, ns_at KX G nEq, KX _ _ lf, cf, PySem.F.mro_object, by exact PySem.F.cmp_object.eq.lookup, PySem.W.nsMap_none_of_in KX okN nNe⟩
  obtain ⟨hp, g, d, tk, os⟩ := s
  refine compareOp_ne_ownEq PySem.F.cmp_object Y O'.obj rfl (Nat.lt_of_le_of_lt (Nat.add_le_add_left (by decide : 1 ≤ 64) _) hr.units) ?_
  have hr1 : Room k X.A.in1 := (hr.mono hk).in1
  have r2 : Vals [V.ref a, V.ref b] [Value.ref a, Value.ref b] := .cons rfl (.cons rfl .nil)
  have hl : ([Value.ref a, Value.ref b]).length = ps.length := by rw [← r2.length]; exact F.len _ _ _ _ q
  have bt := hb _ [Value.ref a, Value.ref b] I.kIn (by rw [List.append_nil]; exact hl)
  rw [List.append_nil] at bt
  refine wpAny_call (codeAny_mono (F.run X.A.in1 X.stack _ H ⟨[.ref a, .ref b], []⟩ [.ref a, .ref b] [.ref a, .ref b] _ E hr1 I.env0.in1 bt r2 q) fun r s' hq => ?_)
  cases r with
  | error e => exact hx pins σ H _ e s' I hq
  | ok fl =>
    cases fl with
    | ret u =>
      obtain ⟨z', H', I', rz, bb, eb, qz⟩ := I.after hq
      subst eb
      cases (show u = Value.bool bb from rz)
      exact ⟨bb, rfl, .bl (!bb), H', I', rfl, qz⟩
    | next => exact False.elim hq
    | brk => exact False.elim hq
    | cont => exact False.elim hq
end
end DL
namespace DK
open PySem PySem.Spec PyProof.Rows L2 DL
/-- the context is one of this def -/
structure Of (X : Cx) (P : Program) (w : World) (K : PySem.W.Frag) (mg : Str → Option Value) (base : Heap) (A : Around) : Prop where
  p : X.prog = P
  w : X.w = w
  k : X.K = K
  m : X.mg = mg
  b : X.base = base
  a : X.A = A
section
variable {X : Cx} {P : Program} {w : World} {K : PySem.W.Frag} {mg : Str → Option Value} {base : Heap} {A : Around} {E : XK} {C : Addr} {k j : Nat} {sp : Sp}
theorem op_eqI (c : MetX P w K mg base k C "__eq__" sp) (hr : Room j A) (hk : k ≤ j) (hx : Passes (L2.CX X.prog X.w) X E) (o : Of X P w K mg base A := by exact ⟨rfl, rfl, rfl, rfl, rfl, rfl⟩) : OpR X (compareOp .Eq) (rEqI K C sp E) := by
  obtain ⟨rfl, rfl, rfl, rfl, rfl, rfl⟩ := o
  exact DL.op_eqI c hr hk hx
theorem op_neI (c : MetX P w K mg base k C "__eq__" sp) (n : NeC K C) (hr : Room j A) (hk : k + 1 ≤ j) (hx : Passes (L2.CX X.prog X.w) X E) (o : Of X P w K mg base A := by exact ⟨rfl, rfl, rfl, rfl, rfl, rfl⟩) : OpR X (compareOp .NotEq) (rNeI C sp E) := by
  obtain ⟨rfl, rfl, rfl, rfl, rfl, rfl⟩ := o
  exact DL.op_neI c n hr hk hx
theorem op_binI {op : Operator} {nm : Str} (hop : PySem.dunder op.info.2 = nm) (c : MetX P w K mg base k C nm sp) (hc : PySem.W.selfFirst K C = true) (hr : Room j A) (hk : k ≤ j) (hx : Passes (L2.CX X.prog X.w) X E) (o : Of X P w K mg base A := by exact ⟨rfl, rfl, rfl, rfl, rfl, rfl⟩) : OpR X (binaryOp op) (rBinI C sp E) := by
  obtain ⟨rfl, rfl, rfl, rfl, rfl, rfl⟩ := o
  exact DL.op_binI hop c hc hr hk hx
end
end DK

set_option Elab.async false
set_option linter.all false
set_option maxRecDepth 100000
set_option maxHeartbeats 4000000
/-! enumerate of a tuple -/
namespace DE
open PySem
open Sem (wp)
open AutoSeq1 (wpAny_loadPart')
abbrev itO (l : Addr) : Obj := { cls := .type "tuple_iterator", data := .fields #[.ref l, .int 0 0] }
abbrev enO (i : Addr) : Obj := { cls := .type "enumerate", data := .fields #[.none, .bool false, .ref i, rawInt 0, .none, .none] }
theorem new_enumT (l : Addr) (ws : Array Value) : Meets (Builtin.«enumerate.__new__» ⟨[.type "enumerate", .ref l], []⟩) (fun _ R s => s.heap.IsTuple l ws ∧
    R (.ok (.ret (.ref (s.heap.push (itO l)).objs.size))) { s with heap := (s.heap.push (itO l)).push (enO s.heap.objs.size) }) :=
  .of_wp fun prog w A R s h => by
    obtain ⟨hp, g, d, tk, os⟩ := s; obtain ⟨tl, h⟩ := h
    have sub := sub_enumerate
    have tl : Heap.IsTuple hp l ws := tl
    have go : ∀ {A' : Around} {E : Value → Shared → Prop} {Q : Value → Shared → Prop}, Q (.ref hp.objs.size) ⟨hp.push (itO l), g, d, tk, os⟩ → wpAny (model prog w) A' (pyIter (.ref l)) Q E ⟨hp, g, d, tk, os⟩ :=
      fun q => wpAny_pyIter_tuple tl q
    wp_walk using go
    refine wpAny_stack_any fun st => wpAny_pure ?_
    split
    · rename_i c _ _ _ _ _
      cases (c == Value.type "enumerate")
      · wp_walk using go
        exact ⟨_, rfl, h⟩
      · wp_walk using go
        exact ⟨_, rfl, h⟩
    · wp_walk using go
      exact ⟨_, rfl, h⟩
section
variable {prog : Program} {w : World} {A : Around} {E : Value → Shared → Prop} {s : Shared}
theorem call_enumT {l : Addr} {ws : Array Value} {Q : Value → Shared → Prop} (tl : s.heap.IsTuple l ws)
    (q : ∀ h', IsEnum h' (s.heap.objs.size + 1) s.heap.objs.size 0 .none → h'.IsTupleIter s.heap.objs.size l 0 → (∀ b o, s.heap.get? b = some o → h'.get? b = some o) → Q (.ref (s.heap.objs.size + 1)) { s with heap := h' }) :
    wpAny (model prog w) A (call (.type "enumerate") [.ref l]) Q E s := by
  refine callType_new F.called_enumerate (by decide) (F.typeCall_enumerate_1 _) (F.newCall_enumerate_1 _) (fun obj => F.args_object_init_2 obj _) F.entry_enumerate_new (new_enumT l ws) ⟨tl, ?_⟩
  have z : (s.heap.push (itO l)).objs.size = s.heap.objs.size + 1 := Heap.size_push ..
  show _ ∧ _
  rw [z]
  have he : IsEnum ((s.heap.push (itO l)).push (enO s.heap.objs.size)) (s.heap.objs.size + 1) s.heap.objs.size 0 .none := by
    have y := Heap.get?_push_size (s.heap.push (itO l)) (o := enO s.heap.objs.size) rfl
    rw [z] at y
    exact y
  exact ⟨⟨_, he, rfl⟩, q _ he ⟨_, Heap.get?_push_of_some _ (Heap.get?_push_size _ rfl), rfl, rfl⟩ fun b o x => Heap.get?_push_of_some _ (Heap.get?_push_of_some _ x)⟩
end
end DE
namespace L2
open PySem PySem.Spec PyProof.Rows
def IteT (K : PySem.W.Frag) (a : Addr) : It where
  go := fun i H => ∃ (l : List V) (y : V), SqT K H a l ∧ l[i]? = some y
  yld := fun i H v H' => ∃ T y, v = .ref T ∧ H T = none ∧ H' = upd H T (.tup [.int (i : Nat), y]) ∧ ∀ l, SqT K H a l → l[i]? = some y
  stop := fun i H => ∃ l : List V, SqT K H a l ∧ l.length = i
theorem turn_enT {P : Program} {w : World} {K : PySem.W.Frag} {elts : List Expr} {kk : Nat} {tpos : Pos} (a e it : Addr) :
    Turn P w K (.Tuple elts kk tpos) (IteT K a) [e, it] e (fun i h => (∃ old, IsEnum h e it ((i : Nat) : Int) old) ∧ h.IsTupleIter it a i ∧ e ≠ it ∧ a ≠ it ∧ a ≠ e) where
  mem := List.mem_cons_self
  obj := fun i h ⟨⟨old, y⟩, ⟨o, ho, _, hd⟩, _⟩ b hb => by
    rcases List.mem_cons.mp hb with z | z
    · subst z
      exact ⟨_, y, fun v q => nomatch q⟩
    · have z := List.mem_singleton.mp z
      subst z
      exact ⟨o, ho, fun v q => by rw [hd] at q; cases q⟩
  keep := fun i h h' ⟨⟨old, y⟩, hi, ne⟩ k => ⟨⟨old, k e (by simp) _ y⟩, hi.at fun o q => k it (by simp) o q, ne⟩
  item := by
    intro X hP hw hK hc i pins s σ H E I hf st hg
    subst hP hw hK
    obtain ⟨⟨old, he⟩, hi, n1, n2, n3⟩ := st
    obtain ⟨l, y, hq, hy⟩ := hg
    obtain ⟨ws, rv, tp, _⟩ := I.tuple hq
    obtain ⟨u, hu, ru⟩ := rv.get hy
    have le := Heap.lt_size he
    have li : it < s.heap.objs.size := by obtain ⟨_, q, _⟩ := hi; exact Heap.lt_size q
    have hlt : i < ws.toArray.size := by
      rw [List.size_toArray]
      exact (List.getElem?_eq_some_iff.mp hu).1
    refine wpAny_pyNext_enum_itemC (Draws.tuple (A := X.A.in1) (I.ok.hd hc) it a n2 ws.toArray) he ⟨hi, tp⟩ hlt n1 (by simp [n1, Ne.symm n3]) fun x h' tk hx ho hst hT _ hk => ?_
    have ex : x = u := by
      have hx : ws.toArray[i]? = some x := hx
      rw [List.getElem?_toArray, hu] at hx
      exact (Option.some.inj hx).symm
    subst ex
    refine ⟨_, rfl, wpAny_letOwnedTupleGo_enum (s := { s with heap := h', toks := tk + 1 }) ho fun h2 he2 sb => ?_⟩
    have hT2 := (sb.2 _ (Nat.ne_of_gt le)).trans hT
    have new : ObjOk X.prog X.w (upd H s.heap.objs.size (.tup [.int (i : Nat), y])) h2 s.heap.objs.size (.tup [.int (i : Nat), y]) :=
      ⟨by show 2 ≤ sizeLine; decide, [.int i tk, x], .cons ⟨_, rfl⟩ (.cons ru .nil), ⟨_, hT2, rfl, _, rfl⟩⟩
    have I1 : Inv X pins σ (upd H s.heap.objs.size (.tup [.int (i : Nat), y])) { s with heap := h2, toks := tk + 1 } :=
      I.turnedNew (ch := [e, it]) (fun b ob hb q => by
        have b1 : b ≠ e := fun z => hb (by rw [z]; exact List.mem_cons_self)
        have b2 : b ≠ it := fun z => hb (by rw [z]; simp)
        exact (sb.2 b b1).trans (hk b ob b1 b2 q)) hf (Nat.le_refl _) new
    refine ⟨.ref s.heap.objs.size, _, I1, rfl, ⟨_, y, rfl, I.hok.fresh (Nat.le_refl _), rfl, fun l' hl => by rw [I.tuple_inj hl hq]; exact hy⟩, ⟨⟨x, ?_⟩, hst.1.at fun o q => (sb.2 it (Ne.symm n1)).trans q, n1, n2, n3⟩, fun b hb => ?_⟩
    · rw [show ((i + 1 : Nat) : Int) = (i : Int) + 1 by omega]
      exact he2
    · have lb : b < s.heap.objs.size := by
        rcases List.mem_cons.mp hb with z | z
        · rw [z]; exact le
        · rw [List.mem_singleton.mp z]; exact li
      rw [upd_ne (Nat.ne_of_lt lb)]
      exact (hf b hb).1
  done := by
    intro X hP hw hK hc i pins s σ H E I hf st hg
    subst hP hw hK
    obtain ⟨⟨old, he⟩, hi, n1, n2, n3⟩ := st
    obtain ⟨l, hq, hl⟩ := hg
    obtain ⟨ws, rv, tp, _⟩ := I.tuple hq
    obtain ⟨f0, f1, f2, f3, f4, f5⟩ := hf it (by simp)
    have hz := rv.length
    have e : i = ws.toArray.size := by rw [List.size_toArray, ← hz, hl]
    subst e
    exact wpAny_pyNext_enum_endD (Draws.tuple (A := X.A.in1) (I.ok.hd hc) it a n2 ws.toArray) he ⟨hi, tp⟩ fun h' eb => ⟨rfl, I.turned (t' := s.toks) (fun b o hb q => eb b o hb q) f0 f1 f3 f4 f5⟩
  self := fun A i s Q E ⟨⟨_, y⟩, _⟩ h => wpAny_pyIter_enum y h
/-- enumerate(e), e a list or a tuple -/
def iEnum2 (K : PySem.W.Frag) (ta : TA) : TI := fun σ H R => ta σ H fun vs H1 => (∃ a xs, vs = [.ref a] ∧ SqL K H1 a xs ∧ R (Ite K a) H1) ∨ ∃ a xs, vs = [.ref a] ∧ SqT K H1 a xs ∧ R (IteT K a) H1
theorem pi_enum2 {X : Cx} {e : Expr} {ta : TA} {p pos tpos : Pos} {elts : List Expr} {kk : Nat} (hg : Gl X "enumerate") (hm : X.mg "enumerate" = none) (ha : PA X [e] ta) (hs : starEach [e] X.env = [(false, eval e X.env)] := by rfl) :
    PI X (.Tuple elts kk tpos) (.Call (.Name "enumerate" p) [e] [] pos) (iEnum2 X.K ta) := by
  refine ⟨fun pins s σ H R I h => ?_⟩
  refine Call_ (ld_blt I hg hm boot_enumerate (PyProof.Rows.callWith_type1 (thn (ha.run pos pins s σ H _ I h) fun us s1 ⟨vs, H1, I1, r1, q1⟩ => ?_) hs rfl))
  have fresh : ∀ b ∈ [s1.heap.objs.size + 1, s1.heap.objs.size], s1.heap.objs.size ≤ b := fun b hb => by
    rcases List.mem_cons.mp hb with z | z
    · rw [z]; exact Nat.le_add_right _ _
    · rw [List.mem_singleton.mp z]; exact Nat.le_refl _
  rcases q1 with ⟨a, xs, rfl, hq, q⟩ | ⟨a, xs, rfl, hq, q⟩
  · cases r1 with
    | cons r rr =>
      cases rr
      cases r
      obtain ⟨ws, rv, tp, _⟩ := I1.list hq
      refine call_enumerate_list tp.isList fun h' he hi hsz hk => wpAny_pyIter_enum he ?_
      exact ⟨_, [s1.heap.objs.size + 1, s1.heap.objs.size], _, _, H1, rfl, I1.kept (t' := s1.toks) hk, turn_enum a (s1.heap.objs.size + 1) s1.heap.objs.size, ⟨⟨.none, he⟩, hi, Nat.succ_ne_self _⟩, fun b hb => I1.fpOk (fresh b hb) (I1.hok.fresh (fresh b hb)), q⟩
  · cases r1 with
    | cons r rr =>
      cases rr
      cases r
      obtain ⟨ws, rv, tp, _⟩ := I1.tuple hq
      have la : a < s1.heap.objs.size := by obtain ⟨o, y, _⟩ := tp; exact Heap.lt_size y
      refine DE.call_enumT tp fun h' he hi hk => wpAny_pyIter_enum he ?_
      exact ⟨_, [s1.heap.objs.size + 1, s1.heap.objs.size], _, _, H1, rfl, I1.kept (t' := s1.toks) hk, turn_enT a (s1.heap.objs.size + 1) s1.heap.objs.size, ⟨⟨.none, he⟩, hi, Nat.succ_ne_self _, Nat.ne_of_lt la, Nat.ne_of_lt (Nat.lt_succ_of_lt la)⟩, fun b hb => I1.fpOk (fresh b hb) (I1.hok.fresh (fresh b hb)), q⟩
end L2
namespace DL
open PySem PySem.Spec PyProof.Rows L2
section
variable {c : Cn} {ς : Sta}
theorem wi_enumT {ta : TA} {Φ : List D → Sta → Prop} (h : WL c ta ς fun ds ς1 => ∃ l, ds = [.tup l] ∧ Φ (enumD l) ς1) : WI c (iEnum2 c.K ta) ς Φ := fun σ k hh S R z =>
  h σ k hh S _ fun vs k1 h1 ds ς1 S1 e1 r1 ⟨l, ed, q⟩ => by
    subst ed
    cases r1 with
    | cons r1 r2 =>
      cases r2
      cases r1 with
      | tup ek er =>
        rename_i a vs
        refine .inr ⟨a, vs, rfl, Same.sqt S1.kh ek, z _ k1 h1 _ ς1 S1 e1 ⟨fun i h hi ⟨e, _⟩ => ?_, fun h ⟨e, _⟩ => ⟨vs, Same.sqt e ek, ?_⟩, fun i h x h' d ed y kc e1 ⟨e2, _⟩ => ?_⟩ q⟩
        · have hv : i < vs.length := by rw [er.length]; unfold enumD at hi; rw [List.length_mapIdx] at hi; exact hi
          exact ⟨vs, vs[i], Same.sqt e ek, by simp [hv]⟩
        · unfold enumD
          rw [List.length_mapIdx, er.length]
        · obtain ⟨T, u, rfl, nT, rfl, y⟩ := y
          obtain ⟨x, hx, rfl⟩ := enumD_get ed
          obtain ⟨u', hu, ru⟩ := er.get hx
          have := y vs (Same.sqt (e1.trans e2) ek)
          rw [hu] at this
          cases this
          have g : Grow No kc h (upd kc T (.tup [.int (i : Nat), u])) (upd h T (.tup [.int (i : Nat), u])) := Grow.new e2 nT (by nofun)
          exact ⟨_, g, .tup (.inl (.inl upd_same)) (.cons (.int _) (.cons (ru.mono (e1.trans g.kk)) .nil))⟩
theorem wi_enumL {ta : TA} {Φ : List D → Sta → Prop} (h : WL c ta ς fun ds ς1 => ∃ l, ds = [.lst l] ∧ Φ (enumD l) ς1) : WI c (iEnum2 c.K ta) ς Φ := fun σ k hh S R z =>
  h σ k hh S _ fun vs k1 h1 ds ς1 S1 e1 r1 ⟨l, ed, q⟩ => by
    subst ed
    cases r1 with
    | cons r1 r2 =>
      cases r2
      cases r1 with
      | lst ek er =>
        rename_i a vs
        refine .inl ⟨a, vs, rfl, SqL.of (S1.kh _ _ ek), z _ k1 h1 _ ς1 S1 e1 ⟨fun i h hi ⟨e, _⟩ => ?_, fun h ⟨e, _⟩ => ⟨vs, SqL.of (e _ _ ek), ?_⟩, fun i h x h' d ed y kc e1 ⟨e2, _⟩ => ?_⟩ q⟩
        · have hv : i < vs.length := by rw [er.length]; unfold enumD at hi; rw [List.length_mapIdx] at hi; exact hi
          exact ⟨vs, vs[i], SqL.of (e _ _ ek), by simp [hv]⟩
        · unfold enumD
          rw [List.length_mapIdx, er.length]
          exact Nat.le_refl _
        · obtain ⟨T, u, rfl, nT, rfl, y⟩ := y
          obtain ⟨x, hx, rfl⟩ := enumD_get ed
          obtain ⟨u', hu, ru⟩ := er.get hx
          have := y vs (SqL.of (e2 _ _ (e1 _ _ ek)))
          rw [hu] at this
          cases this
          have g : Grow No kc h (upd kc T (.tup [.int (i : Nat), u])) (upd h T (.tup [.int (i : Nat), u])) := Grow.new e2 nT (by nofun)
          exact ⟨_, g, .tup (.inl (.inl upd_same)) (.cons (.int _) (.cons (ru.mono (e1.trans g.kk)) .nil))⟩
end
end DL
namespace DK
open PySem PySem.Spec PyProof.Rows L2 DL
theorem pi_enum2 {X : Cx} {K : PySem.W.Frag} {e : Expr} {ta : TA} {p pos tpos : Pos} {elts : List Expr} {kk : Nat} (hg : Gl X "enumerate") (hm : X.mg "enumerate" = none) (ha : PA X [e] ta) (h : X.K = K := by rfl) (hs : starEach [e] X.env = [(false, eval e X.env)] := by rfl) :
    PI X (.Tuple elts kk tpos) (.Call (.Name "enumerate" p) [e] [] pos) (iEnum2 K ta) := by subst h; exact L2.pi_enum2 hg hm ha hs
end DK

set_option Elab.async false
set_option linter.all false
set_option maxRecDepth 100000
set_option maxHeartbeats 4000000
namespace DL
open PySem PySem.Spec PyProof.Rows L2 DX
/-- what the top has written of a class of one's own -/
structure CK (K : PySem.W.Frag) (C : Addr) : Prop where
  ins : C8.InsC K C
  no : ∀ s, Knd s → PySem.W.kitOne K (.type s) (.ref C) = some false
  nf : ∀ s, Knd s → PySem.W.notFirst K C (.type s) = true
  sf : PySem.W.selfFirst K C = true
theorem nf_self {K : PySem.W.Frag} {C : Addr} : PySem.W.notFirst K C (.ref C) = true := by
  unfold PySem.W.notFirst
  simp
theorem Rep.objTy {K : PySem.W.Frag} {k h : Hp} {v : V} {C : Addr} {ns : List Str} {ds : List D} (ck : CK K C) (e : Same k h) (r : Rep K k v (.obj C ns ds)) : TyX K h v (.ref C) := by
  cases r with
  | obj ek _ _ => exact .base (.ins (e _ _ ek) ck.ins.cl ck.ins.ha ck.ins.hn ck.ins.htk ck.ins.hm)
section
variable {K : PySem.W.Frag} {Φ' : D → Prop}
theorem rc_isiO {C : Addr} {ns : List Str} {ds : List D} (ck : CK K C) (q : Φ' (.bl true)) : RC K (rIsi K) [.obj C ns ds, .ref C] Φ' := fun k h vs e r Q z => by
  cases r with
  | cons r1 r2 => cases r2 with
    | cons r2 r3 =>
      cases r2; cases r3
      exact ⟨_, _, _, _, _, rfl, .own C, r1.objTy ck e, ck.ins.me, z _ k h _ (Grow.refl e) (.bl _) q⟩
theorem rc_isiN {C : Addr} {d : D} (ck : CK K C) (hs : (tyN d).isSome = true) (q : Φ' (.bl false)) : RC K (rIsi K) [d, .ref C] Φ' := fun k h vs e r Q z => by
  obtain ⟨s, hs⟩ := Option.isSome_iff_exists.mp hs
  cases r with
  | cons r1 r2 => cases r2 with
    | cons r2 r3 =>
      cases r2; cases r3
      exact ⟨_, _, _, _, _, rfl, .own C, r1.tyX e hs, ck.no s (tyN_knd hs), z _ k h _ (Grow.refl e) (.bl _) q⟩
/-- an operand of an own == -/
inductive Opd (C : Addr) : D → Prop
  | obj (ns : List Str) (ds : List D) : Opd C (.obj C ns ds)
  | ty {d : D} (h : (tyN d).isSome = true) : Opd C d
theorem rd_eqI {C : Addr} {ns : List Str} {fs : List D} {d : D} {g : List D → Option Out} {E : XK} {b : Bool} {Φ : D → Prop} (ck : CK K C) (hd : Opd C d) (hg : g [.obj C ns fs, d] = some (.ret (.bl b))) (q : Φ (.bl b)) : RD K (rEqI K C (SpS K 2 (spcF g)) E) (.obj C ns fs) d Φ := fun k h v1 v2 e r1 r2 Q z => by
  have rr : RepL K k [v1, v2] [.obj C ns fs, d] := .cons r1 (.cons r2 .nil)
  cases r1 with
  | obj ek en er =>
    have sp : SpS K 2 (spcF g) [.ref _, v2] h Q E := ⟨rfl, Res.none, k, _, 0, rr, e, trivial, fun a z => z.elim, ⟨_, hg⟩, fun d' b' hq v k' h' g' _ r => by
      have y := hg.symm.trans hq.1
      cases y
      exact z v k' h' _ g' r q, fun C' ns' fs' b' hq => by
      have y := hg.symm.trans hq.1
      cases y⟩
    cases hd with
    | obj ns' ds' => exact ⟨_, _, _, _, rfl, e _ _ ek, r2.objTy ck e, nf_self, sp⟩
    | ty ht =>
      obtain ⟨s, hs⟩ := Option.isSome_iff_exists.mp ht
      exact ⟨_, _, _, _, rfl, e _ _ ek, r2.tyX e hs, ck.nf s (tyN_knd hs), sp⟩
theorem rd_neI {C : Addr} {ns ns' : List Str} {fs fs' : List D} {g : List D → Option Out} {E : XK} {b : Bool} {Φ : D → Prop} (hg : g [.obj C ns fs, .obj C ns' fs'] = some (.ret (.bl b))) (q : Φ (.bl (!b))) : RD K (rNeI C (SpS K 2 (spcF g)) E) (.obj C ns fs) (.obj C ns' fs') Φ := fun k h v1 v2 e r1 r2 Q z => by
  have rr : RepL K k [v1, v2] [.obj C ns fs, .obj C ns' fs'] := .cons r1 (.cons r2 .nil)
  cases r1 with
  | obj ek en er => cases r2 with
    | obj ek2 en2 er2 =>
      refine ⟨_, _, _, _, _, _, rfl, rfl, e _ _ ek, e _ _ ek2, rfl, Res.none, k, _, 0, rr, e, trivial, fun a z => z.elim, ⟨_, hg⟩, fun d' b' hq v k' h' g' _ r => ?_, fun C' ns' fs' b' hq => ?_⟩
      · have y := hg.symm.trans hq.1
        cases y
        cases r
        exact ⟨b, rfl, z _ k' h' _ g' (.bl _) q⟩
      · have y := hg.symm.trans hq.1
        cases y
/-- x + y and the like: hE: what is raised is taken -/
theorem rd_binI {C : Addr} {ns ns' : List Str} {fs fs' : List D} {g : List D → Option Out} {E : XK} {d : D} {Φ : D → Prop} (hg : g [.obj C ns fs, .obj C ns' fs'] = some (.ret d)) (q : Φ d) : RD K (rBinI C (SpS K 2 (spcF g)) E) (.obj C ns fs) (.obj C ns' fs') Φ := fun k h v1 v2 e r1 r2 Q z => by
  have rr : RepL K k [v1, v2] [.obj C ns fs, .obj C ns' fs'] := .cons r1 (.cons r2 .nil)
  cases r1 with
  | obj ek en er => cases r2 with
    | obj ek2 en2 er2 =>
      refine ⟨_, _, _, _, _, _, rfl, rfl, e _ _ ek, e _ _ ek2, rfl, Res.none, k, _, 0, rr, e, trivial, fun a z => z.elim, ⟨_, hg⟩, fun d' b' hq v k' h' g' _ r => ?_, fun C' ns' fs' b' hq => ?_⟩
      · have y := hg.symm.trans hq.1
        cases y
        exact z _ k' h' _ g' r q
      · have y := hg.symm.trans hq.1
        cases y
end
section
variable {c : Cn} {ς : Sta} {Φ : D → Sta → Prop} {Ψ : Psi}
/-- a method that hangs on its object and arguments alone -/
theorem we_methF {C : Addr} {m : Str} {n : Nat} {g : List D → Option Out} {E : XK} {te : TE} {ta : TA} {X : XT} (hE : XOk c E X)
    (h : WE c te ς fun d ς0 => ∃ ns fs, d = .obj C ns fs ∧ m ∉ ns ∧ WL c ta ς0 fun ds ς1 => (d :: ds).length = n ∧ ∃ o, g (d :: ds) = some o ∧ OutP Φ X ς1 o) : WE c (tMeth C m (SpS c.K n (spcF g)) [] E te ta) ς Φ := by
  refine we_meth hE fun σ k hh S Q z => h σ k hh S Q fun v k' h' d ς' S' e r ⟨ns, fs, ed, hm, w⟩ => z v k' h' d ς' S' e r ⟨ns, fs, ed, hm, fun σ k hh S Q z => w σ k hh S Q fun vs k' h' ds ς' S' e r ⟨h1, o, h2, h3⟩ => z vs k' h' ds ς' S' e r ⟨h1, ⟨o, h2⟩, fun e b q => ?_, fun C ns fs b q => ?_⟩⟩
  · have e := h2.symm.trans q.1
    cases e
    cases h3 with
    | ret q => exact q
  · have e := h2.symm.trans q.1
    cases e
    cases h3 with
    | exc q => exact q
/-- __init__ that hangs on its arguments alone: the fields in order -/
inductive OutI where
  | ok (ns : List Str) (fs : List D)
  | exc (C : Addr) (ns : List Str) (fs : List D)
def spcI (g : List D → Option OutI) : SpcI where
  pre := fun ds => ∃ o, g ds = some o
  post := fun ds ns fs => g ds = some (.ok ns fs)
  exc := fun ds C ns fs => g ds = some (.exc C ns fs)
inductive OutJ (C0 : Addr) (Φ : D → Sta → Prop) (X : XT) (ς : Sta) : OutI → Prop
  | ok {ns : List Str} {fs : List D} (q : Φ (.obj C0 ns fs) ς) : OutJ C0 Φ X ς (.ok ns fs)
  | exc {C : Addr} {ns : List Str} {fs : List D} (q : X C ns fs ς) : OutJ C0 Φ X ς (.exc C ns fs)
theorem we_makeF {C : Addr} {n : Nat} {g : List D → Option OutI} {E : XK} {ta : TA} {X : XT} (hE : XOk c E X) (h : WL c ta ς fun ds ς1 => ds.length + 1 = n ∧ ∃ o, g ds = some o ∧ OutJ C Φ X ς1 o) : WE c (tMake C (SpI c.K n C (spcI g)) [] E ta) ς Φ := by
  refine we_make hE fun σ k hh S Q z => h σ k hh S Q fun vs k' h' ds ς' S' e r ⟨h1, o, h2, h3⟩ => z vs k' h' ds ς' S' e r ⟨h1, ⟨o, h2⟩, fun ns fs q => ?_, fun C ns fs q => ?_⟩
  · have e := h2.symm.trans q
    cases e
    cases h3 with
    | ok q => exact q
  · have e := h2.symm.trans q
    cases e
    cases h3 with
    | exc q => exact q
theorem mk_ok {C : Addr} {n : Nat} {g : List D → Option OutI} {ds : List D} {X : XT} {ns : List Str} {fs : List D} (hl : ds.length + 1 = n) (hg : g ds = some (.ok ns fs)) (q : Φ (.obj C ns fs) ς) : ds.length + 1 = n ∧ ∃ o, g ds = some o ∧ OutJ C Φ X ς o := ⟨hl, _, hg, .ok q⟩
theorem mk_exc {C : Addr} {n : Nat} {g : List D → Option OutI} {ds : List D} {X : XT} {C' : Addr} {ns : List Str} {fs : List D} (hl : ds.length + 1 = n) (hg : g ds = some (.exc C' ns fs)) (q : X C' ns fs ς) : ds.length + 1 = n ∧ ∃ o, g ds = some o ∧ OutJ C Φ X ς o := ⟨hl, _, hg, .exc q⟩
/-- o.f by its data -/
theorem we_fld1 {te : TE} {f : Str} (h : WE c te ς fun d ς1 => ∃ C ns ds d', d = .obj C ns ds ∧ (Cls c.K C ∧ NoAttr c.K C f) ∧ lookD f ns ds = some d' ∧ Φ d' ς1) : WE c (tFld c.K te f) ς Φ :=
  we_fld fun σ k hh S Q z => h σ k hh S Q fun v k' h' d ς' S' e r ⟨C, ns, ds, d', h1, ⟨h2, h3⟩, h4, q⟩ => z v k' h' d ς' S' e r ⟨C, ns, ds, d', h1, h2, h3, h4, q⟩
end
theorem rc_max2 {K : PySem.W.Frag} {Φ' : D → Prop} {i j : Int} (q : Φ' (.int (if j > i then j else i))) : RC K (fun xs H Q => ∃ i j, xs = [.int i, .int j] ∧ Q (.int (if j > i then j else i)) H) [.int i, .int j] Φ' := fun k h vs e r Q z => by
  cases r with
  | cons r1 r2 => cases r2 with
    | cons r2 r3 =>
      cases r1; cases r2; cases r3
      exact ⟨i, j, rfl, z _ k h _ (Grow.refl e) (.int _) q⟩
/-! ### lists of ints -/
abbrev iL (l : List Int) : D := .lst (l.map D.int)
theorem eqvAll_iL : ∀ a b : List Int, PyData.eqvAll (toPyL (a.map D.int)) (toPyL (b.map D.int)) = decide (a = b)
  | [], [] => by simp [toPyL, PyData.eqvAll]
  | [], y :: b => by simp [toPyL, PyData.eqvAll]
  | x :: a, [] => by simp [toPyL, PyData.eqvAll]
  | x :: a, y :: b => by
    have h := eqvAll_iL a b
    simp only [List.map_cons, toPyL, D.toPy, PyData.eqvAll, PyData.eqv, h]
    by_cases e : x = y <;> simp [e]
theorem eqv_iL (a b : List Int) : PyData.eqv (iL a).toPy (iL b).toPy = decide (a = b) := by
  have h := eqvAll_iL a b
  simp only [D.toPy, PyData.eqv, h]
theorem lay_iL : ∀ a : List Int, PyData.canLayAll0 (toPyL (a.map D.int)) = true
  | [] => by simp [toPyL, PyData.canLayAll0]
  | x :: a => by simp [toPyL, D.toPy, PyData.canLayAll0, PyData.canLay0, lay_iL a]
theorem dep_iL : ∀ a : List Int, PyData.depthAll (toPyL (a.map D.int)) ≤ 1
  | [] => by simp [toPyL, PyData.depthAll]
  | x :: a => by
    have := dep_iL a
    simp [toPyL, D.toPy, PyData.depthAll, PyData.depth]
    omega
theorem sh_iL (a : List Int) : SeqAt.shaped (iL a).toPy = true := by
  have h1 := lay_iL a
  have h2 := dep_iL a
  simp only [SeqAt.shaped, D.toPy, PyData.canLay0, PyData.depth, h1, Bool.true_and, decide_eq_true_eq]
  omega
theorem rd_eq_iL {K : PySem.W.Frag} {Φ : D → Prop} {a b : List Int} (q : Φ (.bl (decide (a = b)))) : RD K (rEqK K) (iL a) (iL b) Φ := by
  refine rd_eq_py (sh_iL a) (sh_iL b) ?_
  rw [eqv_iL]
  exact q
theorem rd_ne_iL {K : PySem.W.Frag} {Φ : D → Prop} {a b : List Int} (q : Φ (.bl (!decide (a = b)))) : RD K (rNeK K) (iL a) (iL b) Φ := by
  refine rd_ne_py (sh_iL a) (sh_iL b) ?_
  rw [eqv_iL]
  exact q
end DL
namespace DL
open PySem PySem.Spec PyProof.Rows L2 DX
/-! ### what hangs on data of a form alone -/
open Classical in
noncomputable def gOf {α : Type} (ar : α → List D) (ok : α → Prop) (res : α → Out) (ds : List D) : Option Out := if h : ∃ x, ar x = ds ∧ ok x then some (res (Classical.choose h)) else none
theorem gOf_eq {α : Type} {ar : α → List D} {ok : α → Prop} {res : α → Out} (inj : ∀ x y, ar x = ar y → x = y) {x : α} (h : ok x) : gOf ar ok res (ar x) = some (res x) := by
  have e : ∃ y, ar y = ar x ∧ ok y := ⟨x, rfl, h⟩
  unfold gOf
  rw [dif_pos e, inj _ _ (Classical.choose_spec e).1]
theorem gOf_inv {α : Type} {ar : α → List D} {ok : α → Prop} {res : α → Out} {ds : List D} {o : Out} (h : gOf ar ok res ds = some o) : ∃ x, ds = ar x ∧ ok x ∧ o = res x := by
  unfold gOf at h
  by_cases e : ∃ x, ar x = ds ∧ ok x
  · rw [dif_pos e] at h
    have z := Classical.choose_spec e
    exact ⟨_, z.1.symm, z.2, (Option.some.inj h).symm⟩
  · rw [dif_neg e] at h
    cases h
theorem iL_inj {a b : List Int} (h : a.map D.int = b.map D.int) : a = b := by
  have z := congrArg (List.map dI) h
  rw [List.map_map, List.map_map] at z
  exact (List.map_id' a).symm.trans ((List.map_congr_left fun _ _ => rfl).trans (z.trans ((List.map_congr_left fun _ _ => rfl).trans (List.map_id' b))))
end DL

set_option Elab.async false
set_option linter.all false
set_option maxRecDepth 100000
set_option maxHeartbeats 4000000
/-! lists of ints handed on by their place (they may change later) -/
namespace DL
open PySem PySem.Spec PyProof.Rows L2 DX
/-- the list at o stays through the def's run -/
structure HR (c : Cn) (o : Addr) (xs : List Int) : Prop where
  at_ : c.h0 o = some (.lst (xs.map V.int))
  nw : ¬ c.R.W o
  kn : c.k0 o = none
theorem HR.now {c : Cn} {o : Addr} {xs : List Int} {ς : Sta} {σ : L2.St} {k h : Hp} (r : HR c o xs) (S : SR c ς σ k h) : h o = some (.lst (xs.map V.int)) := S.g.hh _ _ r.nw r.at_
theorem HR.no {c : Cn} {o : Addr} {xs : List Int} {ς : Sta} {σ : L2.St} {k h : Hp} (r : HR c o xs) (S : SR c ς σ k h) : k o = none := S.g.dj o r.kn (by rw [r.at_]; simp)
theorem HR.st {c : Cn} {o : Addr} {xs : List Int} {k h : Hp} (r : HR c o xs) (s : StK c k h) : h o = some (.lst (xs.map V.int)) := by
  obtain ⟨_, ς, σ, k', S, _⟩ := s
  exact r.now S
theorem get_ints {xs : List Int} {i : Nat} {d : D} (h : (xs.map D.int)[i]? = some d) : ∃ x, d = .int x ∧ (xs.map V.int)[i]? = some (.int x) := by
  rw [List.getElem?_map] at h
  cases e : xs[i]? with
  | none => rw [e] at h; cases h
  | some x =>
    rw [e] at h
    cases h
    exact ⟨x, rfl, by rw [List.getElem?_map, e]; rfl⟩
section
variable {c : Cn} {ς : Sta} {Φ : D → Sta → Prop} {Ψ : Psi}
theorem wi_seqR {te : TE} {Φ : List D → Sta → Prop} (h : WE c te ς fun d ς1 => ∃ o xs, d = .ref o ∧ HR c o xs ∧ Φ (xs.map D.int) ς1) : WI c (iSeq c.K te) ς Φ := fun σ k hh S R z => .inl <|
  h σ k hh S _ fun v k1 h1 d ς1 S1 e1 r1 ⟨o, xs, ed, r, q⟩ => by
    subst ed
    cases r1
    refine ⟨o, rfl, ⟨_, SqL.of (r.now S1)⟩, z _ k1 h1 _ ς1 S1 e1 ⟨fun i h hi s => ?_, fun h s => ⟨_, SqL.of (r.st s), by rw [List.length_map, List.length_map]; exact Nat.le_refl _⟩, fun i h x h' d ed y kc e1 s => ?_⟩ q⟩
    · rw [List.length_map] at hi
      exact ⟨_, .int xs[i], SqL.of (r.st s), by simp [hi]⟩
    · obtain ⟨rfl, y⟩ := y
      obtain ⟨n, rfl, hu⟩ := get_ints ed
      have := y _ (SqL.of (r.st s))
      rw [hu] at this
      cases this
      exact ⟨kc, Grow.refl s.same, .int n⟩
theorem wi_enumR {ta : TA} {Φ : List D → Sta → Prop} (h : WL c ta ς fun ds ς1 => ∃ o xs, ds = [.ref o] ∧ HR c o xs ∧ Φ (enumD (xs.map D.int)) ς1) : WI c (iEnum2 c.K ta) ς Φ := fun σ k hh S R z =>
  h σ k hh S _ fun vs k1 h1 ds ς1 S1 e1 r1 ⟨o, xs, ed, r, q⟩ => by
    subst ed
    cases r1 with
    | cons r1 r2 =>
      cases r2
      cases r1
      refine .inl ⟨o, _, rfl, SqL.of (r.now S1), z _ k1 h1 _ ς1 S1 e1 ⟨fun i h hi s => ?_, fun h s => ⟨_, SqL.of (r.st s), ?_⟩, fun i h x h' d ed y kc e1 s => ?_⟩ q⟩
      · unfold enumD at hi
        rw [List.length_mapIdx, List.length_map] at hi
        exact ⟨_, .int xs[i], SqL.of (r.st s), by simp [hi]⟩
      · unfold enumD
        rw [List.length_mapIdx, List.length_map, List.length_map]
        exact Nat.le_refl _
      · obtain ⟨T, u, rfl, nT, rfl, y⟩ := y
        obtain ⟨d, hx, rfl⟩ := enumD_get ed
        obtain ⟨n, rfl, hu⟩ := get_ints hx
        have := y _ (SqL.of (r.st s))
        rw [hu] at this
        cases this
        have g : Grow No kc h (upd kc T (.tup [.int (i : Nat), .int n])) (upd h T (.tup [.int (i : Nat), .int n])) := Grow.new s.same nT (by nofun)
        exact ⟨_, g, .tup (.inl (.inl upd_same)) (.cons (.int _) (.cons (.int _) .nil))⟩
/-- isinstance(x, (list, tuple)) -/
theorem we_isiR {te : TE} (h : WE c te ς fun d ς1 => ∃ o xs, d = .ref o ∧ HR c o xs ∧ Φ (.bl true) ς1) : WE c (tCB (rIsiT c.K) (tCons te (tCons (tTup (tCons (tC (.ty "list")) (tCons (tC (.ty "tuple")) tNil))) tNil))) ς Φ := fun σ k hh S Q z =>
  h σ k hh S _ fun v k1 h1 d ς1 S1 e1 r1 ⟨o, xs, ed, r, q⟩ => by
    subst ed
    cases r1
    show tTup (tTys ["list", "tuple"]) σ h1 _
    refine tTys_go (ns := ["list", "tuple"]) (h := h1) ?_
    refine ⟨by rw [sizeLine_eq]; decide, fun p n => ?_⟩
    have g : Grow No k1 h1 k1 (upd h1 p (.tup (["list", "tuple"].map V.ty))) := Grow.newU S1.kh n
    have S2 := S1.grow g
    exact ⟨.ref o, p, _, _, _, _, rfl, upd_same, clsV_tys, .base (.lst (r.now S2)), kitAny_tys (s := "list") (by simp [Knd]) (by simp [Knd]), z _ k1 _ _ ς1 S2 e1 (.bl _) q⟩
/-- tuple(xs), xs a list that may change later -/
theorem we_tupM {te : TE} (h : WE c te ς fun d ς1 => ∃ (o : Addr) (j : Nat) (l : List D), d = .ref o ∧ ς1.m[j]? = some (o, .lst l) ∧ Φ (.tup l) ς1) : WE c (tCB (rTupK c.K) (tCons te tNil)) ς Φ := fun σ k hh S Q z =>
  h σ k hh S _ fun v k1 h1 d ς1 S1 e1 r1 ⟨o, j, l, ed, ej, q⟩ => by
    subst ed
    cases r1
    obtain ⟨a1, a2, vs, hv, rv⟩ := S1.at ej
    refine ⟨o, vs, rfl, .inl ⟨SqL.of hv, fun p n => ?_⟩⟩
    have g : Grow No k1 h1 (upd k1 p (.tup vs)) (upd h1 p (.tup vs)) := Grow.new S1.kh n (by nofun)
    exact z _ _ _ _ ς1 (S1.grow g) (e1.trans g.kk) (.tup (.inl (.inl upd_same)) (rv.mono g.kk)) q
/-- a new list that may change: its place -/
theorem SR.newM {σ : L2.St} {k1 h1 : Hp} {p : Addr} {vs : List V} {ds : List D} (S1 : SR c ς σ k1 h1) (n : h1 p = none) (r1 : RepL c.K k1 vs ds) : SR c { ς with m := (p, .lst ds) :: ς.m } σ k1 (upd h1 p (.lst vs)) ∧ ∀ x ∈ ς.m, x.1 ≠ p := by
  have g : Grow (fun _ => False) k1 h1 k1 (upd h1 p (.lst vs)) := Grow.newU S1.kh n
  have S2 := S1.grow g
  have np : ∀ x ∈ ς.m, x.1 ≠ p := fun x hx e => (S1.m x hx).2.2.there (by rw [e]; exact n)
  refine ⟨⟨S2.g, S2.i, S2.w, S2.s, fun x hx => ?_, ?_, S2.len, S2.kb⟩, np⟩
  · rcases List.mem_cons.mp hx with e | hx
    · subst e
      refine ⟨S1.kh.free n, ?_, ⟨vs, upd_same, r1⟩⟩
      cases y : c.h0 p with
      | none => exact .inl rfl
      | some o => exact absurd n (S1.g.hd p (by rw [y]; simp))
    · exact S2.m x hx
  · rw [List.map_cons]
    refine List.nodup_cons.mpr ⟨fun hm => ?_, S1.nd⟩
    obtain ⟨x, hx, e⟩ := List.mem_map.mp hm
    exact np x hx e
/-- list(xs) that may change later -/
theorem we_newL {te : TE} (h : WE c te ς fun d ς1 => ∃ l, d = .lst l ∧ ∀ p, (∀ x ∈ ς1.m, x.1 ≠ p) → Φ (.ref p) { ς1 with m := (p, .lst l) :: ς1.m }) : WE c (tCB (rListK c.K) (tCons te tNil)) ς Φ := fun σ k hh S Q z =>
  h σ k hh S _ fun v k1 h1 d ς1 S1 e1 r1 ⟨l, ed, q⟩ => by
    subst ed
    cases r1 with
    | lst ek er =>
      refine ⟨_, _, rfl, .inl (SqL.of (S1.kh _ _ ek)), fun p n => ?_⟩
      obtain ⟨S2, np⟩ := S1.newM n er
      exact z (.ref p) k1 _ _ _ S2 e1 (.ref p) (q p np)
/-- e.append(x), e a new list -/
theorem ws_appendE {j : Nat} {to te : TE} (hI : ∀ b h h', c.fr = false → c.R.I b h → c.R.I b h')
    (h : WE c to ς fun d ς1 => ∃ o, d = .ref o ∧ (∃ ds, ς1.m[j]? = some (o, MO.lst ds)) ∧ WE c te ς1 fun e ς2 => ∃ ds, ς2.m[j]? = some (o, MO.lst ds) ∧ ds.length < sizeLine ∧ Ψ.nx { ς2 with m := ς2.m.set j (o, MO.lst (ds ++ [e])) }) :
    WS c (tDrop (tBM c.K "list" rAppend to (tCons te tNil))) ς Ψ := fun σ k hh S E z =>
  h σ k hh S _ fun v k1 h1 d ς1 S1 e1 r1 ⟨o, ed, ⟨ds0, ej0⟩, q⟩ => by
    subst ed
    cases r1
    obtain ⟨_, _, vs0, hv0, _⟩ := S1.at ej0
    refine ⟨.inl ⟨rfl, vs0, SqL.of hv0⟩, q σ k1 h1 S1 _ fun y k2 h2 e ς2 S2 e2 r2 ⟨ds, ej, l, q2⟩ => ?_⟩
    obtain ⟨a1, a2, vs, hv, rv⟩ := S2.at ej
    refine ⟨o, vs, y, rfl, rfl, hv, by rw [rv.length]; exact l, ?_⟩
    exact z.nx σ k2 _ _ (S2.put (mo' := .lst (ds ++ [e])) ej hI ⟨vs ++ [y], upd_same, rv.append (.cons r2 .nil)⟩) (e1.trans e2) q2
/-- a list that may change is not looked at any more -/
theorem ws_forget {j : Nat} {t : TS} (h : WS c t { ς with m := ς.m.eraseIdx j } Ψ) : WS c t ς Ψ := fun σ k hh S E z =>
  h σ k hh ⟨S.g, S.i, S.w, S.s, fun p hp => S.m p (List.mem_of_mem_eraseIdx hp), by
    show ((ς.m.eraseIdx j).map (·.1)).Nodup
    exact S.nd.sublist ((List.eraseIdx_sublist ς.m j).map _), S.len, S.kb⟩ E z
end
/-! ### defs that take such a list -/
def spOr (s1 s2 : Sp) : Sp := fun vs H Q E => s1 vs H Q E ∨ s2 vs H Q E
theorem fn_or {P : Program} {w : World} {K : PySem.W.Frag} {mg : Str → Option Value} {base : Heap} {CX : CXT} {k : Nat} {f : Addr} {fd : FuncData} {ps : List Str} {s1 s2 : Sp} (h1 : FnOk P w K mg base CX k f fd ps s1) (h2 : FnOk P w K mg base CX k f fd ps s2) : FnOk P w K mg base CX k f fd ps (spOr s1 s2) := by
  refine ⟨fun vs H Q E h => ?_, fun A outer s H args us vs Q E hr e0 hb r h => ?_⟩
  · rcases h with h | h
    · exact h1.len _ _ _ _ h
    · exact h2.len _ _ _ _ h
  · rcases h with h | h
    · exact h1.run A outer s H args us vs Q E hr e0 hb r h
    · exact h2.run A outer s H args us vs Q E hr e0 hb r h
/-- f(xs): told by the numbers -/
def SpR1 (K : PySem.W.Frag) (g : List Int → D) : Sp := fun vs H Q _ => ∃ (o : Addr) (xs : List Int) (k : Hp), vs = [.ref o] ∧ H o = some (.lst (xs.map V.int)) ∧ k o = none ∧ Same k H ∧ xs.length ≤ 1000 ∧ ∀ v k' h', Grow No k H k' h' → Rep K k' v (g xs) → Q v h'
section
variable {P : Program} {w : World} {K : PySem.W.Frag} {mg : Str → Option Value} {base : Heap}
theorem fnR1 {x qual : Str} {st : Stmt} {f : Addr} {fd : FuncData} {N ps : List Str} {k : Nat} {g : List Int → D} (Fn : Fun K x qual st f fd) (S : FnScope N ps (defScope st)) (hn : ps.length = 1)
    (hbody : ∀ (cdv : Value) (A : Around) (outer : List Env) (sh : Shared) (H : Hp) (E : XK), Room k (A.deeper (envOfC qual (defScope st) sh.heap.objs.size f cdv)) →
      ∃ t, PSs (cxOf (L2.CX P w) P w K mg base N qual (defScope st) f cdv A outer sh H E) (defBody st) t ∧
        ∀ (k0 : Hp) (o : Addr) (xs : List Int), HR ⟨K, Res.none, k0, H, true, fun _ => none⟩ o xs → xs.length ≤ 1000 →
          WS ⟨K, Res.none, k0, H, true, fun _ => none⟩ t { δ := startD N [.ref o], b := 0 } { nx := fun _ => g xs = .non, rt := fun d _ => d = g xs }) :
    FnOk P w K mg base (L2.CX P w) (k + 1) f fd ps (SpR1 K g) := by
  refine Fn.okX S (fun vs H Q E h => by obtain ⟨_, _, _, rfl, _⟩ := h; rw [hn]; rfl) fun cdv A outer sh H vs Q E hr h => ?_
  obtain ⟨t, ht, hw⟩ := hbody cdv A outer sh H E hr
  obtain ⟨o, xs, k0, rfl, ho, ko, e, hl, hq⟩ := h
  refine ⟨t, ht, ?_⟩
  have rr : RepL K k0 [.ref o] [.ref o] := .cons (.ref o) .nil
  refine hw k0 o xs ⟨ho, fun z => z, ko⟩ hl (L2.start N _) k0 H ⟨Grow.refl e, trivial, fun _ z => z.elim, fun i d q => start_rep rr q, fun p hp => absurd hp (by simp), List.nodup_nil, start_len rr.length, fun _ _ z => by cases z⟩ _ ?_
  exact ⟨fun σ' k' h' ς' S' _ q => hq .non k' h' S'.g (by rw [q]; exact .non), fun _ _ _ _ _ _ q => q.elim, fun _ _ _ _ _ _ q => q.elim, fun v σ' k' h' d ς' S' _ r q => hq v k' h' S'.g (by rw [← q]; exact r)⟩
end
section
variable {c : Cn} {ς : Sta} {Φ : D → Sta → Prop} {Ψ : Psi}
theorem we_callFl {n : Nat} {g : List D → Option Out} {s2 : Sp} {E : XK} {ta : TA} {X : XT} (hE : XOk c E X) (h : WL c ta ς fun ds ς1 => ds.length = n ∧ ∃ o, g ds = some o ∧ OutP Φ X ς1 o) : WE c (tCall (spOr (SpS c.K n (spcF g)) s2) [] E ta) ς Φ := fun σ k hh S Q z =>
  h σ k hh S _ fun vs k1 h1 ds ς1 S1 e1 r1 ⟨l, o, h2, h3⟩ => by
    refine .inl ?_
    rw [List.append_nil]
    refine ⟨by rw [r1.length, l], Res.none, k1, ds, 0, r1, S1.kh, trivial, fun a z => z.elim, ⟨o, h2⟩, fun d b q v k' h' g _ r => ?_, fun C ns fs b q dd ws k' h' g _ e r => ?_⟩
    · have e := h2.symm.trans q.1
      cases e
      cases h3 with
      | ret q => exact z v k' h' d ς1 (S1.grow g) (e1.trans g.kk) r q
    · have e' := h2.symm.trans q.1
      cases e'
      cases h3 with
      | exc q => exact hE C ns fs dd ws σ k' h' ς1 (S1.grow g) e r q
/-- the list is one that stays through this def's run, or one of its own -/
def Stands (c : Cn) (ς : Sta) (o : Addr) (xs : List Int) : Prop := HR c o xs ∨ ∃ j : Nat, ς.m[j]? = some (o, MO.lst (xs.map D.int))
theorem Stands.now {o : Addr} {xs : List Int} {σ : L2.St} {k h : Hp} (r : Stands c ς o xs) (S : SR c ς σ k h) : h o = some (.lst (xs.map V.int)) := by
  rcases r with r | ⟨j, ej⟩
  · exact r.now S
  · obtain ⟨a1, a2, vs, hv, rv⟩ := S.at ej
    rw [← rv.ints]
    exact hv
theorem Stands.no {o : Addr} {xs : List Int} {σ : L2.St} {k h : Hp} (r : Stands c ς o xs) (S : SR c ς σ k h) : k o = none := by
  rcases r with r | ⟨j, ej⟩
  · exact r.no S
  · exact (S.at ej).1
theorem we_callR1 {g : List Int → D} {s1 : Sp} {E : XK} {ta : TA} (h : WL c ta ς fun ds ς1 => ∃ o xs, ds = [.ref o] ∧ Stands c ς1 o xs ∧ xs.length ≤ 1000 ∧ Φ (g xs) ς1) : WE c (tCall (spOr s1 (SpR1 c.K g)) [] E ta) ς Φ := fun σ k hh S Q z =>
  h σ k hh S _ fun vs k1 h1 ds ς1 S1 e1 r1 ⟨o, xs, ed, st, l, q⟩ => by
    subst ed
    cases r1 with
    | cons r1 r2 =>
      cases r1; cases r2
      exact .inr ⟨o, xs, k1, rfl, st.now S1, st.no S1, S1.kh, l, fun v k' h' g r => z v k' h' _ ς1 (S1.grow g) (e1.trans g.kk) r q⟩
end
end DL

set_option Elab.async false
set_option linter.all false
set_option maxRecDepth 100000
set_option maxHeartbeats 4000000
/-! C(an int, a list of ints that may change later) -/
namespace DL
open PySem PySem.Spec PyProof.Rows L2 DX
def SpIR (K : PySem.W.Frag) (C : Addr) (P : Int → List Int → Prop) (ns : List Str) (g : Int → List Int → List D) : Sp := fun vs H Q _ => ∃ (x dx o : Addr) (p : Int) (xs : List Int) (k : Hp), vs = [.ref x, .int p, .ref o] ∧ H x = some (.ins C dx []) ∧ k x = none ∧ H o = some (.lst (xs.map V.int)) ∧ k o = none ∧ Same k H ∧ P p xs ∧
  ∀ k' h' ws, Grow (initR x).W k H k' h' → h' x = some (.ins C dx ws) → ws.map (·.1) = ns → RepL K k' (ws.map (·.2)) (g p xs) → Q .non h'
section
variable {P : Program} {w : World} {K : PySem.W.Frag} {mg : Str → Option Value} {base : Heap}
theorem fnIR {x qual : Str} {st : Stmt} {f C : Addr} {fd : FuncData} {N ps : List Str} {k : Nat} {Pr : Int → List Int → Prop} {ns : List Str} {g : Int → List Int → List D} (Fn : Fun K x qual st f fd) (S : FnScope N ps (defScope st)) (hn : ps.length = 3)
    (hbody : ∀ (cdv : Value) (A : Around) (outer : List Env) (sh : Shared) (H : Hp) (E : XK), Room k (A.deeper (envOfC qual (defScope st) sh.heap.objs.size f cdv)) →
      ∃ t, PSs (cxOf (L2.CX P w) P w K mg base N qual (defScope st) f cdv A outer sh H E) (defBody st) t ∧
        ∀ (i dx o : Addr) (p : Int) (xs : List Int) (k0 : Hp), HR ⟨K, initR i, k0, H, false, fun _ => none⟩ o xs → Pr p xs →
          WS ⟨K, initR i, k0, H, false, fun _ => none⟩ t { δ := startD N [.ref i, .int p, .ref o], m := [(i, .ins C dx [] [])], b := 0 }
            { nx := fun ς => ς.m = [(i, .ins C dx ns (g p xs))], rt := fun _ _ => False }) :
    FnOk P w K mg base (L2.CX P w) (k + 1) f fd ps (SpIR K C Pr ns g) := by
  refine Fn.okX S (fun vs H Q E h => by obtain ⟨_, _, _, _, _, _, rfl, _⟩ := h; rw [hn]; rfl) fun cdv A outer sh H vs Q E hr h => ?_
  obtain ⟨t, ht, hw⟩ := hbody cdv A outer sh H E hr
  obtain ⟨i, dx, o, p, xs, k0, rfl, hi, ki, ho, ko, e, hp, hq⟩ := h
  refine ⟨t, ht, ?_⟩
  have rr : RepL K k0 [.ref i, .int p, .ref o] [.ref i, .int p, .ref o] := .cons (.ref i) (.cons (.int p) (.cons (.ref o) .nil))
  have ne : o ≠ i := fun z => by rw [z, hi] at ho; cases ho
  refine hw i dx o p xs k0 ⟨ho, ne, ko⟩ hp (L2.start N _) k0 H ?_ _ ?_
  · refine ⟨Grow.refl e, trivial, fun a z => ?_, fun j d q => start_rep rr q, fun p hp => ?_, ?_, start_len rr.length, fun _ _ z => by cases z⟩
    · have z : a = i := z
      subst z
      exact ⟨ki, by show H _ ≠ none; rw [hi]; simp⟩
    · have z := List.mem_singleton.mp hp
      subst z
      exact ⟨ki, .inr ⟨rfl, rfl⟩, [], hi, rfl, .nil⟩
    · show List.Nodup [i]
      simp
  · refine ⟨fun σ' k' h' ς' S' _ q => ?_, fun _ _ _ _ _ _ q => q.elim, fun _ _ _ _ _ _ q => q.elim, fun v σ' k' h' d ς' S' _ r q => q.elim⟩
    obtain ⟨_, _, ws, a1, a2, a3⟩ := S'.m (i, .ins C dx ns (g p xs)) (by rw [q]; simp)
    exact hq k' h' ws S'.g a1 a2 a3
end
section
variable {c : Cn} {ς : Sta} {Φ : D → Sta → Prop} {Ψ : Psi}
/-- what a new instance's making leaves -/
theorem made_back {x dx C : Addr} {k1 h1 k' h' : Hp} (nx : h1 x = none) (ndx : h1 dx = none) (g : Grow (initR x).W k1 (upd (upd h1 dx (.own x)) x (.ins C dx [])) k' h') : Grow No k1 h1 k' h' := by
  refine ⟨g.kk, g.kh, fun a o _ q => ?_, fun a q => ?_, fun a q n => g.dj a q ?_, g.kt⟩
  · have na : a ≠ x := ne_of_none q nx
    exact g.hh a o na (by rw [upd_ne na, upd_ne (ne_of_none q ndx)]; exact q)
  · refine g.hd a ?_
    have na : a ≠ x := fun e => q (by rw [e]; exact nx)
    have nd : a ≠ dx := fun e => q (by rw [e]; exact ndx)
    rw [upd_ne na, upd_ne nd]
    exact q
  · have na : a ≠ x := fun e => n (by rw [e]; exact nx)
    have nd : a ≠ dx := fun e => n (by rw [e]; exact ndx)
    rw [upd_ne na, upd_ne nd]
    exact n
theorem made_known {x dx C : Addr} {k1 h1 k' h' : Hp} {ws : List (Str × V)} (kx : k1 x = none) (nx : h1 x = none) (ndx : h1 dx = none) (g : Grow (initR x).W k1 (upd (upd h1 dx (.own x)) x (.ins C dx [])) k' h') (ex : h' x = some (.ins C dx ws)) :
    Same k' (upd k' x (.ins C dx ws)) ∧ Grow No k1 h1 (upd k' x (.ins C dx ws)) h' := by
  have g1 := made_back nx ndx g
  have kx' : k' x = none := g.dj x kx (by rw [upd_same]; simp)
  have kk : Same k' (upd k' x (.ins C dx ws)) := same_new kx'
  refine ⟨kk, g1.kk.trans kk, fun a o q => ?_, g1.hh, g1.hd, fun a q n => ?_, fun a ps q => ?_⟩
  · by_cases ea : a = x
    · rw [ea, upd_same] at q
      rw [ea, ex]
      exact q
    · rw [upd_ne ea] at q
      exact g1.kh _ _ q
  · have na : a ≠ x := fun e => n (by rw [e]; exact nx)
    rw [upd_ne na]
    exact g1.dj a q n
  · by_cases ea : a = x
    · rw [ea, upd_same] at q; cases q
    · rw [upd_ne ea] at q; exact g1.kt a ps q
theorem we_makeFl {C : Addr} {n : Nat} {g : List D → Option OutI} {s2 : Sp} {E : XK} {ta : TA} {X : XT} (hE : XOk c E X) (h : WL c ta ς fun ds ς1 => ds.length + 1 = n ∧ ∃ o, g ds = some o ∧ OutJ C Φ X ς1 o) : WE c (tMake C (spOr (SpI c.K n C (spcI g)) s2) [] E ta) ς Φ := fun σ k hh S Q z =>
  h σ k hh S _ fun vs k1 h1 ds ς1 S1 e1 r1 ⟨l, o, h2, h3⟩ x dx nx ndx nex => by
    refine .inl ?_
    rw [List.append_nil]
    have kx : k1 x = none := S1.kh.free nx
    have s1 : Same k1 (upd (upd h1 dx (.own x)) x (.ins C dx [])) := S1.kh.trans ((same_new ndx).trans (same_new (by rw [upd_ne (fun e => nex e.symm)]; exact nx)))
    refine ⟨by rw [List.length_cons, r1.length, l], x, dx, vs, k1, ds, rfl, upd_same, kx, r1, s1, ⟨o, h2⟩, fun ns fs hp k' h' ws g ex en er => ⟨rfl, ?_⟩, fun C' ns fs hx dd ws k' h' g _ e r => ?_⟩
    · obtain ⟨kk, g2⟩ := made_known kx nx ndx g ex
      have e := h2.symm.trans hp
      cases e
      cases h3 with
      | ok q => exact z (.ref x) _ h' _ ς1 (S1.grow g2) (e1.trans g2.kk) (.obj upd_same en (er.mono kk)) q
    · have e' := h2.symm.trans hx
      cases e'
      cases h3 with
      | exc q => exact hE C' ns fs dd ws σ k' h' ς1 (S1.grow (made_back nx ndx g)) e r q
theorem we_makeR {C : Addr} {Pr : Int → List Int → Prop} {ns : List Str} {g : Int → List Int → List D} {s1 : Sp} {E : XK} {ta : TA} (h : WL c ta ς fun ds ς1 => ∃ p o xs, ds = [.int p, .ref o] ∧ Stands c ς1 o xs ∧ Pr p xs ∧ Φ (.obj C ns (g p xs)) ς1) :
    WE c (tMake C (spOr s1 (SpIR c.K C Pr ns g)) [] E ta) ς Φ := fun σ k hh S Q z =>
  h σ k hh S _ fun vs k1 h1 ds ς1 S1 e1 r1 ⟨p, o, xs, ed, st, hp, q⟩ x dx nx ndx nex => by
    subst ed
    cases r1 with
    | cons ra r1 => cases r1 with
      | cons rb r1 =>
        cases ra; cases rb; cases r1
        have kx : k1 x = none := S1.kh.free nx
        have s1 : Same k1 (upd (upd h1 dx (.own x)) x (.ins C dx [])) := S1.kh.trans ((same_new ndx).trans (same_new (by rw [upd_ne (fun e => nex e.symm)]; exact nx)))
        have ho := st.now S1
        have nox : o ≠ x := ne_of_none ho nx
        have nod : o ≠ dx := ne_of_none ho ndx
        refine .inr ⟨x, dx, o, p, xs, k1, rfl, upd_same, kx, by rw [upd_ne nox, upd_ne nod]; exact ho, st.no S1, s1, hp, fun k' h' ws g ex en er => ⟨rfl, ?_⟩⟩
        obtain ⟨kk, g2⟩ := made_known kx nx ndx g ex
        exact z (.ref x) _ h' _ ς1 (S1.grow g2) (e1.trans g2.kk) (.obj upd_same en (er.mono kk)) q
theorem we_makeFR {C : Addr} {n : Nat} {g : List D → Option OutI} {Pr : Int → List Int → Prop} {ns : List Str} {g' : Int → List Int → List D} {E : XK} {ta : TA} {X : XT} (hE : XOk c E X)
    (h : WL c ta ς fun ds ς1 => (ds.length + 1 = n ∧ ∃ o, g ds = some o ∧ OutJ C Φ X ς1 o) ∨ ∃ p o xs, ds = [.int p, .ref o] ∧ Stands c ς1 o xs ∧ Pr p xs ∧ Φ (.obj C ns (g' p xs)) ς1) :
    WE c (tMake C (spOr (SpI c.K n C (spcI g)) (SpIR c.K C Pr ns g')) [] E ta) ς Φ := fun σ k hh S Q z =>
  h σ k hh S _ fun vs k1 h1 ds ς1 S1 e1 r1 q => by
    rcases q with q | q
    · exact we_makeFl (c := c.at k1) (ς := ς1) (Φ := fun d ς' => Φ d ς' ) (ta := fun _ H Q => Q vs H) (X := X) (fun C ns fs dd ws σ k' h' ς' S a r x => hE C ns fs dd ws σ k' h' ς' (S.out S1.kb) a r x) (fun σ' k' h' S' Q' z' => z' vs k' h' ds ς1 S' (Same.refl _) (r1.mono S'.kb) q) σ k1 h1 (S1.into (Same.refl _)) Q fun v k' h' d ς' S' e r x => z v k' h' d ς' (S'.out S1.kb) (e1.trans e) r x
    · exact we_makeR (c := c.at k1) (ς := ς1) (Φ := fun d ς' => Φ d ς' ) (ta := fun _ H Q => Q vs H) (fun σ' k' h' S' Q' z' => z' vs k' h' ds ς1 S' (Same.refl _) (r1.mono S'.kb) (by
        obtain ⟨p, o, xs, ed, st, x⟩ := q
        exact ⟨p, o, xs, ed, st.imp (fun h => ⟨h.at_, h.nw, h.kn⟩) id, x⟩)) σ k1 h1 (S1.into (Same.refl _)) Q fun v k' h' d ς' S' e r x => z v k' h' d ς' (S'.out S1.kb) (e1.trans e) r x
end
/-! ### o.m() that gives a new list of what stands in a field -/
def SpNew (K : PySem.W.Frag) (C : Addr) (f : Str) : Sp := fun vs H Q _ => ∃ (a dx : Addr) (fs : List (Str × V)) (r : Addr) (xs : List V), vs = [.ref a] ∧ H a = some (.ins C dx fs) ∧ fs.lookup f = some (.ref r) ∧ SqL K H r xs ∧ ∀ b, H b = none → Q (.ref b) (upd H b (.lst xs))
section
variable {c : Cn} {ς : Sta} {Φ : D → Sta → Prop} {Ψ : Psi}
theorem we_newD {C : Addr} {m f : Str} {E : XK} {te : TE} (h : WE c te ς fun d ς1 => ∃ ns fs l, d = .obj C ns fs ∧ m ∉ ns ∧ lookD f ns fs = some (.lst l) ∧ Φ (.lst l) ς1) : WE c (tMeth C m (SpNew c.K C f) [] E te tNil) ς Φ := fun σ k hh S Q z =>
  h σ k hh S _ fun v k1 h1 d ς1 S1 e1 r1 ⟨ns, fs, l, ed, nm, hl, q⟩ => by
    subst ed
    cases r1 with
    | obj ek en er =>
      obtain ⟨v', e2, r2⟩ := look_rep en er hl
      cases r2 with
      | lst ek2 er2 =>
        refine ⟨_, _, _, rfl, S1.kh _ _ ek, look_none (by rw [en]; exact nm), _, _, _, _, _, rfl, S1.kh _ _ ek, e2, SqL.of (S1.kh _ _ ek2), fun b nb => ?_⟩
        have g : ∀ {o}, NT o → Grow No k1 h1 (upd k1 b o) (upd h1 b o) := fun t => Grow.new S1.kh nb t
        exact z _ _ _ _ ς1 (S1.grow (g (by nofun))) (e1.trans (g (by nofun)).kk) (.lst upd_same (er2.mono (g (by nofun)).kk)) q
theorem we_newM {C : Addr} {m f : Str} {E : XK} {te : TE} (h : WE c te ς fun d ς1 => ∃ ns fs l, d = .obj C ns fs ∧ m ∉ ns ∧ lookD f ns fs = some (.lst l) ∧ ∀ p, (∀ x ∈ ς1.m, x.1 ≠ p) → Φ (.ref p) { ς1 with m := (p, .lst l) :: ς1.m }) : WE c (tMeth C m (SpNew c.K C f) [] E te tNil) ς Φ := fun σ k hh S Q z =>
  h σ k hh S _ fun v k1 h1 d ς1 S1 e1 r1 ⟨ns, fs, l, ed, nm, hl, q⟩ => by
    subst ed
    cases r1 with
    | obj ek en er =>
      obtain ⟨v', e2, r2⟩ := look_rep en er hl
      cases r2 with
      | lst ek2 er2 =>
        refine ⟨_, _, _, rfl, S1.kh _ _ ek, look_none (by rw [en]; exact nm), _, _, _, _, _, rfl, S1.kh _ _ ek, e2, SqL.of (S1.kh _ _ ek2), fun b nb => ?_⟩
        obtain ⟨S2, np⟩ := S1.newM nb er2
        exact z (.ref b) k1 _ _ _ S2 e1 (.ref b) (q b np)
end
end DL
namespace DL
open PySem PySem.Spec PyProof.Rows L2 DX
section
variable {c : Cn} {ς : Sta} {Φ : D → Sta → Prop} {s l : Addr} {E : XK}
theorem we_drawE {j : Nat} {te : TE} (V : SubR c (strm s l)) (h0 : ς.δ[j]? = some (some (.ref s))) (h : WE c te ς fun d ς1 => ∃ n : Int, d = .int n ∧ 0 < n ∧ n ≤ 1000000 ∧ ς1.b ≤ 1000000000000 ∧ ∀ x, 0 ≤ x → x < n → Φ (.int x) { ς1 with b := ς1.b + 1 }) :
    WE c (tCall (SpS c.K 2 drawS) [] E (tCons (tVar j) (tCons te tNil))) ς Φ := by
  refine we_callR V (X := fun _ _ _ _ => False) xok0 (wl_cons (we_var h0 (wl_cons fun σ k hh S Q z => h σ k hh S Q fun v k' h' d ς' S' e r ⟨n, ed, h1, h2, h3, h4⟩ => z v k' h' d ς' S' e r (wl_nil ⟨rfl, ⟨s, l, _, rfl, rfl, n, by rw [ed], h1, h2, h3⟩, ?_, fun _ _ _ _ z => z⟩))))
  rintro d' b ⟨a, as, e, n', x, e2, rfl, x1, x2, rfl⟩
  cases e
  subst ed
  cases e2
  exact h4 x x1 x2
end
end DL

set_option Elab.async false
set_option linter.all false
set_option maxRecDepth 100000
set_option maxHeartbeats 4000000
/-! methods that give a list that may be written; range(i, j, -1) -/
namespace DL
open PySem PySem.Spec PyProof.Rows L2 DX
/-- the answer is a new list, known to none -/
def SpNM (K : PySem.W.Frag) (n : Nat) (ok : List D → Prop) (g : List D → List D) : Sp := fun vs H Q _ => vs.length = n ∧ ∃ (k : Hp) (ds : List D), RepL K k vs ds ∧ Same k H ∧ ok ds ∧
  ∀ b k' h' us, Grow No k H k' h' → H b = none → k' b = none → h' b = some (.lst us) → RepL K k' us (g ds) → Q (.ref b) h'
section
variable {P : Program} {w : World} {K : PySem.W.Frag} {mg : Str → Option Value} {base : Heap}
theorem fnNM {x qual : Str} {st : Stmt} {f : Addr} {fd : FuncData} {N ps : List Str} {k n : Nat} {ok : List D → Prop} {g : List D → List D} (Fn : Fun K x qual st f fd) (S : FnScope N ps (defScope st)) (hn : ps.length = n)
    (hbody : ∀ (cdv : Value) (A : Around) (outer : List Env) (sh : Shared) (H : Hp) (E : XK), Room k (A.deeper (envOfC qual (defScope st) sh.heap.objs.size f cdv)) →
      ∃ t, PSs (cxOf (L2.CX P w) P w K mg base N qual (defScope st) f cdv A outer sh H E) (defBody st) t ∧
        ∀ (k0 : Hp) (ds : List D), ok ds → ds.length = n →
          WS ⟨K, Res.none, k0, H, true, fun _ => none⟩ t { δ := startD N ds, b := 0 } { nx := fun _ => False, rt := fun d ς => ∃ b, d = .ref b ∧ ς.m = [(b, MO.lst (g ds))] }) :
    FnOk P w K mg base (L2.CX P w) (k + 1) f fd ps (SpNM K n ok g) := by
  refine Fn.okX S (fun vs H Q E h => by rw [h.1, hn]) fun cdv A outer sh H vs Q E hr h => ?_
  obtain ⟨t, ht, hw⟩ := hbody cdv A outer sh H E hr
  obtain ⟨hl, k0, ds, rl, e, hp, hq⟩ := h
  refine ⟨t, ht, ?_⟩
  refine hw k0 ds hp (by rw [← rl.length, hl]) (L2.start N vs) k0 H ⟨Grow.refl e, trivial, fun _ z => z.elim, fun i d q => start_rep rl q, fun p hp => absurd hp (by simp), List.nodup_nil, start_len rl.length, fun _ _ z => by cases z⟩ _ ?_
  refine ⟨fun _ _ _ _ _ _ q => q.elim, fun _ _ _ _ _ _ q => q.elim, fun _ _ _ _ _ _ q => q.elim, fun v σ' k' h' d ς' S' _ r q => ?_⟩
  obtain ⟨b, rfl, em⟩ := q
  cases r
  obtain ⟨a1, a2, us, a3, a4⟩ := S'.m (b, MO.lst (g ds)) (by rw [em]; simp)
  have a2 : H b = none := by
    rcases a2 with z | ⟨z, _⟩
    · exact z
    · cases z
  exact hq b k' h' us S'.g a2 a1 a3 a4
end
section
variable {c : Cn} {ς : Sta} {Φ : D → Sta → Prop} {Ψ : Psi}
/-- the state behind such a call -/
theorem SR.got {σ : L2.St} {k1 h1 k' h' : Hp} {b : Addr} {us : List V} {ds : List D} (S1 : SR c ς σ k1 h1) (g : Grow No k1 h1 k' h') (hb : h1 b = none) (kb : k' b = none) (eb : h' b = some (.lst us)) (r : RepL c.K k' us ds) : SR c { ς with m := (b, .lst ds) :: ς.m } σ k' h' ∧ ∀ x ∈ ς.m, x.1 ≠ b := by
  have S2 := S1.grow g
  have np : ∀ x ∈ ς.m, x.1 ≠ b := fun x hx e => (S1.m x hx).2.2.there (by rw [e]; exact hb)
  refine ⟨⟨S2.g, S2.i, S2.w, S2.s, fun x hx => ?_, ?_, S2.len, S2.kb⟩, np⟩
  · rcases List.mem_cons.mp hx with e | hx
    · subst e
      refine ⟨kb, ?_, ⟨us, eb, r⟩⟩
      cases y : c.h0 b with
      | none => exact .inl rfl
      | some o => exact absurd hb (S1.g.hd b (by rw [y]; simp))
    · exact S2.m x hx
  · rw [List.map_cons]
    refine List.nodup_cons.mpr ⟨fun hm => ?_, S1.nd⟩
    obtain ⟨x, hx, e⟩ := List.mem_map.mp hm
    exact np x hx e
theorem SR.known {σ : L2.St} {k1 h1 k' h' : Hp} {b : Addr} {us : List V} {ds : List D} (S1 : SR c ς σ k1 h1) (g : Grow No k1 h1 k' h') (hb : h1 b = none) (kb : k' b = none) (eb : h' b = some (.lst us)) (r : RepL c.K k' us ds) : SR c ς σ (upd k' b (.lst us)) h' ∧ Same k1 (upd k' b (.lst us)) ∧ Rep c.K (upd k' b (.lst us)) (.ref b) (.lst ds) := by
  have kk : Same k' (upd k' b (.lst us)) := same_new kb
  have g2 : Grow No k1 h1 (upd k' b (.lst us)) h' := by
    refine ⟨g.kk.trans kk, fun a o q => ?_, g.hh, g.hd, fun a q n => ?_, fun a ps q => ?_⟩
    · by_cases ea : a = b
      · rw [ea, upd_same] at q
        rw [ea, eb]
        exact q
      · rw [upd_ne ea] at q
        exact g.kh _ _ q
    · have na : a ≠ b := fun e => n (by rw [e]; exact hb)
      rw [upd_ne na]
      exact g.dj a q n
    · by_cases ea : a = b
      · rw [ea, upd_same] at q; cases q
      · rw [upd_ne ea] at q; exact g.kt a ps q
  exact ⟨S1.grow g2, g2.kk, .lst upd_same (r.mono kk)⟩
theorem we_nmD {C : Addr} {m : Str} {n : Nat} {ok : List D → Prop} {g : List D → List D} {E : XK} {te : TE} {ta : TA} (h : WE c te ς fun d ς0 => ∃ ns fs, d = .obj C ns fs ∧ m ∉ ns ∧ WL c ta ς0 fun ds ς1 => (d :: ds).length = n ∧ ok (d :: ds) ∧ Φ (.lst (g (d :: ds))) ς1) :
    WE c (tMeth C m (SpNM c.K n ok g) [] E te ta) ς Φ := fun σ k hh S Q z =>
  h σ k hh S _ fun v k0 h0 d ς0 S0 e0 r0 ⟨ns, fs, ed, nm, q0⟩ => by
    subst ed
    have r0' := r0
    cases r0 with
    | obj ek en er =>
      refine ⟨_, _, _, rfl, S0.kh _ _ ek, look_none (by rw [en]; exact nm), ?_⟩
      refine q0 σ k0 h0 S0 _ fun vs k1 h1 ds ς1 S1 e1 r1 ⟨l, p, q⟩ => ?_
      rw [List.append_nil]
      have rr : RepL c.K k1 (_ :: vs) (_ :: ds) := .cons (r0'.mono e1) r1
      refine ⟨by rw [rr.length, l], k1, _ :: ds, rr, S1.kh, p, fun b k' h' us g hb kb eb r => ?_⟩
      obtain ⟨S2, e2, r2⟩ := S1.known g hb kb eb r
      exact z _ _ _ _ ς1 S2 ((e0.trans e1).trans e2) r2 q
theorem we_nmM {C : Addr} {m : Str} {n : Nat} {ok : List D → Prop} {g : List D → List D} {E : XK} {te : TE} {ta : TA} (h : WE c te ς fun d ς0 => ∃ ns fs, d = .obj C ns fs ∧ m ∉ ns ∧ WL c ta ς0 fun ds ς1 => (d :: ds).length = n ∧ ok (d :: ds) ∧ ∀ b, (∀ x ∈ ς1.m, x.1 ≠ b) → Φ (.ref b) { ς1 with m := (b, .lst (g (d :: ds))) :: ς1.m }) :
    WE c (tMeth C m (SpNM c.K n ok g) [] E te ta) ς Φ := fun σ k hh S Q z =>
  h σ k hh S _ fun v k0 h0 d ς0 S0 e0 r0 ⟨ns, fs, ed, nm, q0⟩ => by
    subst ed
    have r0' := r0
    cases r0 with
    | obj ek en er =>
      refine ⟨_, _, _, rfl, S0.kh _ _ ek, look_none (by rw [en]; exact nm), ?_⟩
      refine q0 σ k0 h0 S0 _ fun vs k1 h1 ds ς1 S1 e1 r1 ⟨l, p, q⟩ => ?_
      rw [List.append_nil]
      have rr : RepL c.K k1 (_ :: vs) (_ :: ds) := .cons (r0'.mono e1) r1
      refine ⟨by rw [rr.length, l], k1, _ :: ds, rr, S1.kh, p, fun b k' h' us g hb kb eb r => ?_⟩
      obtain ⟨S2, np⟩ := S1.got g hb kb eb r
      exact z _ k' h' _ _ S2 ((e0.trans e1).trans g.kk) (.ref b) (q b np)
/-- xs * n, to be written -/
theorem we_repM {ta tb : TE} (h : WE c ta ς fun d1 ς1 => WE c tb ς1 fun d2 ς2 => ∃ xs n, d1 = .lst xs ∧ d2 = .int n ∧ (-(2 ^ 63) ≤ n ∧ n < 2 ^ 63 ∧ xs.length * n.toNat ≤ sizeLine) ∧ ∀ p, (∀ x ∈ ς2.m, x.1 ≠ p) → Φ (.ref p) { ς2 with m := (p, .lst (List.replicate n.toNat xs).flatten) :: ς2.m }) :
    WE c (tOp rMulK ta tb) ς Φ := fun σ k hh S Q z =>
  h σ k hh S _ fun v1 k1 h1 d1 ς1 S1 e1 r1 q1 => q1 σ k1 h1 S1 _ fun v2 k2 h2 d2 ς2 S2 e2 r2 ⟨xs, n, ed1, ed2, ⟨l1, l2, l3⟩, q⟩ => by
    subst ed1
    subst ed2
    cases r1 with
    | lst ek er =>
      cases r2
      refine .inr (.inr ⟨_, n, _, rfl, rfl, S2.kh _ _ (e2 _ _ ek), l1, l2, by rw [er.length]; exact l3, fun p np => ?_⟩)
      have er2 := er.mono e2
      have rr : ∀ m : Nat, RepL c.K k2 (List.replicate m _).flatten (List.replicate m xs).flatten := fun m => by
        induction m with
        | zero => exact .nil
        | succ m ih =>
          rw [List.replicate_succ, List.replicate_succ, List.flatten_cons, List.flatten_cons]
          exact er2.append ih
      obtain ⟨S3, nm⟩ := S2.newM np (rr n.toNat)
      exact z (.ref p) k2 _ _ _ S3 (e1.trans e2) (.ref p) (q p nm)
def rngC (lo cc : Int) (n : Nat) : List D := (List.range n).map fun i => .int (lo + (i : Nat) * cc)
theorem rngC_len (lo cc : Int) (n : Nat) : (rngC lo cc n).length = n := by unfold rngC; rw [List.length_map, List.length_range]
theorem rngC_get {lo cc : Int} {n i : Nat} {d : D} (h : (rngC lo cc n)[i]? = some d) : d = .int (lo + (i : Nat) * cc) ∧ i < n := by
  have hi : i < n := by
    have := (List.getElem?_eq_some_iff.mp h).1
    rwa [rngC_len] at this
  unfold rngC at h
  rw [List.getElem?_map, List.getElem?_range hi] at h
  exact ⟨(Option.some.inj h).symm, hi⟩
theorem wi_rng3 {ta : TA} {Φ : List D → Sta → Prop} (h : WL c ta ς fun ds ς1 => ∃ i j : Int, ds = [.int i, .int j, .int (-1)] ∧ (-(2 ^ 62) ≤ i ∧ i < 2 ^ 62 ∧ -(2 ^ 62) ≤ j ∧ j < 2 ^ 62) ∧ Φ (rngC i (-1) (i - j).toNat) ς1) : WI c (iRng3 ta) ς Φ := fun σ k hh S R z =>
  h σ k hh S _ fun vs k1 h1 ds ς1 S1 e1 r1 ⟨i, j, ed, ⟨a1, a2, a3, a4⟩, q⟩ => by
    subst ed
    cases r1 with
    | cons r1 r2 => cases r2 with
      | cons r2 r3 => cases r3 with
        | cons r3 r4 =>
          cases r1; cases r2; cases r3; cases r4
          refine ⟨i, j, -1, _, rfl, RgC.neg a1 a2 a3 a4, z _ k1 h1 _ ς1 S1 e1 ⟨fun i h hi _ => by rw [rngC_len] at hi; exact hi, fun h _ => by rw [rngC_len]; exact Nat.le_refl _, fun i h x h' d ed y kc e1 ⟨e2, _⟩ => ?_⟩ q⟩
          obtain ⟨rfl, rfl⟩ := y
          obtain ⟨rfl, _⟩ := rngC_get ed
          exact ⟨kc, Grow.refl e2, .int _⟩
end
end DL

set_option Elab.async false
set_option linter.all false
set_option maxRecDepth 100000
set_option maxHeartbeats 4000000
/-! own operators that may raise; a, b = a list -/
namespace DK
open PySem PySem.Spec PyProof.Rows L2
variable {X : Cx} {K : PySem.W.Frag}
theorem pg_lst {es : List Expr} {k : Nat} {t : TGs} {n : Nat} {pos : Pos} (hc : X.calm = true) (ha : PGs X es t) (h : X.K = K := by rfl)
    (hn : (assignEach es X.env).length = n := by rfl) (hst : (assignEach es X.env).findIdx? (·.1) = none := by rfl) : PG X (.Tuple es k pos) (gLst K n t) := by subst h; exact L2.pg_lst hc ha hn hst
end DK
namespace DL
open PySem PySem.Spec PyProof.Rows L2 DX
section
variable {c : Cn} {ς : Sta} {Φ : D → Sta → Prop} {Ψ : Psi}
theorem wg_lst {n : Nat} {gs : TGs} {ds : List D} {Φ : Sta → Prop} (hn : ds.length = n) (h : WGs c gs ds ς Φ) : WG c (gLst c.K n gs) (.lst ds) ς Φ := fun σ k hh v S r Q z => by
  cases r with
  | lst ek er => exact ⟨_, _, rfl, SqL.of (S.kh _ _ ek), by rw [er.length]; exact hn, h σ k hh _ S er Q z⟩
/-- an own operator, its outcome told by g -/
theorem we_binIF {C : Addr} {g : List D → Option Out} {E : XK} {ta tb : TE} {X : XT} (hE : XOk c E X)
    (h : WE c ta ς fun d1 ς1 => WE c tb ς1 fun d2 ς2 => ∃ ns fs ns' fs' o, d1 = .obj C ns fs ∧ d2 = .obj C ns' fs' ∧ g [d1, d2] = some o ∧ OutP Φ X ς2 o) : WE c (tOp (rBinI C (SpS c.K 2 (spcF g)) E) ta tb) ς Φ := fun σ k hh S Q z =>
  h σ k hh S _ fun v1 k1 h1 d1 ς1 S1 e1 r1 q1 => q1 σ k1 h1 S1 _ fun v2 k2 h2 d2 ς2 S2 e2 r2 ⟨ns, fs, ns', fs', o, ed1, ed2, hg, h3⟩ => by
    subst ed1
    subst ed2
    have rr1 := r1.mono e2
    have rr2 := r2
    cases r1 with
    | obj ek en er =>
      cases r2 with
      | obj ek2 en2 er2 =>
        refine ⟨_, _, _, _, _, _, rfl, rfl, S2.kh _ _ (e2 _ _ ek), S2.kh _ _ ek2, ?_⟩
        refine ⟨rfl, Res.none, k2, _, 0, .cons rr1 (.cons rr2 .nil), S2.kh, trivial, fun a z => z.elim, ⟨o, hg⟩, fun d b q v k' h' g' _ r => ?_, fun C ns fs b q dd ws k' h' g' _ e r => ?_⟩
        · have e := hg.symm.trans q.1
          cases e
          cases h3 with
          | ret q => exact z v k' h' d ς2 (S2.grow g') ((e1.trans e2).trans g'.kk) r q
        · have e' := hg.symm.trans q.1
          cases e'
          cases h3 with
          | exc q => exact hE C ns fs dd ws σ k' h' ς2 (S2.grow g') e r q
end
end DL

set_option Elab.async false
set_option linter.all false
set_option maxRecDepth 100000
set_option maxHeartbeats 4000000
/-! x in a list that changes, extend, f(int, list by place), defs whose lambdas are handed on -/
namespace DL
open PySem PySem.Spec PyProof.Rows L2 DX
section
variable {c : Cn} {ς : Sta} {Φ : D → Sta → Prop} {Ψ : Psi}
/-- x in xs, xs a list that may change -/
theorem we_inM {j : Nat} {o : Addr} {ds : List D} {ta tb : TE} (h : WE c ta ς fun x ς1 => WE c tb ς1 fun e ς2 => e = .ref o ∧ ς2.m[j]? = some (o, .lst ds) ∧ flatD x = true ∧ ds.all flatD = true ∧ Φ (.bl (ds.any fun y => eqF y x)) ς2) :
    WE c (tOp (rInK c.K) ta tb) ς Φ := fun σ k hh S Q z =>
  h σ k hh S _ fun v1 k1 h1 d1 ς1 S1 e1 r1 q1 => q1 σ k1 h1 S1 _ fun v2 k2 h2 d2 ς2 S2 e2 r2 ⟨ed, ej, fx, fl, q⟩ => by
    subst ed
    cases r2
    obtain ⟨a1, a2, vs, hv, rv⟩ := S2.at ej
    have r1' := r1.mono e2
    refine .inl ⟨o, vs, rfl, .inl (SqL.of hv), by rw [r1'.flat]; exact fx, by rw [rv.flat]; exact fl, ?_⟩
    rw [if_neg Bool.false_ne_true, rv.inV r1' fx fl]
    exact z _ k2 h2 _ ς2 S2 (e1.trans e2) (.bl _) q
/-- xs.extend(ys) -/
theorem ws_extend {j : Nat} {o : Addr} {ds : List D} {to te : TE} (hI : ∀ b h h', c.fr = false → c.R.I b h → c.R.I b h' := by first | exact (fun _ _ _ z => nomatch z) | exact (fun _ _ _ _ z => z))
    (h : WE c to ς fun d ς1 => d = .ref o ∧ (∃ ds, ς1.m[j]? = some (o, .lst ds)) ∧ WE c te ς1 fun e ς2 => ∃ es, e = .lst es ∧ ς2.m[j]? = some (o, .lst ds) ∧ ds.length + es.length ≤ sizeLine ∧ Ψ.nx { ς2 with m := ς2.m.set j (o, .lst (ds ++ es)) }) :
    WS c (tDrop (tBM c.K "list" rExtend to (tCons te tNil))) ς Ψ := fun σ k hh S E z =>
  h σ k hh S _ fun v k1 h1 d ς1 S1 e1 r1 ⟨ed, ⟨ds0, ej0⟩, q⟩ => by
    subst ed
    cases r1
    obtain ⟨_, _, vs0, hv0, _⟩ := S1.at ej0
    refine ⟨.inl ⟨rfl, vs0, SqL.of hv0⟩, q σ k1 h1 S1 _ fun y k2 h2 e ς2 S2 e2 r2 ⟨es, ee, ej, l, q2⟩ => ?_⟩
    subst ee
    cases r2 with
    | lst ek er =>
      obtain ⟨a1, a2, vs, hv, rv⟩ := S2.at ej
      refine ⟨o, _, vs, _, rfl, rfl, hv, S2.kh _ _ ek, by rw [rv.length, er.length]; exact l, ?_⟩
      exact z.nx σ k2 _ _ (S2.put (mo' := .lst (ds ++ es)) ej hI ⟨vs ++ _, upd_same, rv.append er⟩) (e1.trans e2) q2
end
/-! ### f(p, xs): xs by its place -/
def SpR2 (K : PySem.W.Frag) (Pr : Int → List Int → Prop) (g : Int → List Int → D) : Sp := fun vs H Q _ => ∃ (o : Addr) (p : Int) (xs : List Int) (k : Hp), vs = [.int p, .ref o] ∧ H o = some (.lst (xs.map V.int)) ∧ k o = none ∧ Same k H ∧ Pr p xs ∧ ∀ v k' h', Grow No k H k' h' → Rep K k' v (g p xs) → Q v h'
section
variable {P : Program} {w : World} {K : PySem.W.Frag} {mg : Str → Option Value} {base : Heap}
theorem fnR2 {x qual : Str} {st : Stmt} {f : Addr} {fd : FuncData} {N ps : List Str} {k : Nat} {Pr : Int → List Int → Prop} {g : Int → List Int → D} (Fn : Fun K x qual st f fd) (S : FnScope N ps (defScope st)) (hn : ps.length = 2)
    (hbody : ∀ (cdv : Value) (A : Around) (outer : List Env) (sh : Shared) (H : Hp) (E : XK), Room k (A.deeper (envOfC qual (defScope st) sh.heap.objs.size f cdv)) →
      ∃ t, PSs (cxOf (L2.CX P w) P w K mg base N qual (defScope st) f cdv A outer sh H E) (defBody st) t ∧
        ∀ (k0 : Hp) (o : Addr) (p : Int) (xs : List Int), HR ⟨K, Res.none, k0, H, true, fun _ => none⟩ o xs → Pr p xs →
          WS ⟨K, Res.none, k0, H, true, fun _ => none⟩ t { δ := startD N [.int p, .ref o], b := 0 } { nx := fun _ => g p xs = .non, rt := fun d _ => d = g p xs }) :
    FnOk P w K mg base (L2.CX P w) (k + 1) f fd ps (SpR2 K Pr g) := by
  refine Fn.okX S (fun vs H Q E h => by obtain ⟨_, _, _, _, rfl, _⟩ := h; rw [hn]; rfl) fun cdv A outer sh H vs Q E hr h => ?_
  obtain ⟨t, ht, hw⟩ := hbody cdv A outer sh H E hr
  obtain ⟨o, p, xs, k0, rfl, ho, ko, e, hl, hq⟩ := h
  refine ⟨t, ht, ?_⟩
  have rr : RepL K k0 [.int p, .ref o] [.int p, .ref o] := .cons (.int p) (.cons (.ref o) .nil)
  refine hw k0 o p xs ⟨ho, fun z => z, ko⟩ hl (L2.start N _) k0 H ⟨Grow.refl e, trivial, fun _ z => z.elim, fun i d q => start_rep rr q, fun p hp => absurd hp (by simp), List.nodup_nil, start_len rr.length, fun _ _ z => by cases z⟩ _ ?_
  exact ⟨fun σ' k' h' ς' S' _ q => hq .non k' h' S'.g (by rw [q]; exact .non), fun _ _ _ _ _ _ q => q.elim, fun _ _ _ _ _ _ q => q.elim, fun v σ' k' h' d ς' S' _ r q => hq v k' h' S'.g (by rw [← q]; exact r)⟩
end
section
variable {c : Cn} {ς : Sta} {Φ : D → Sta → Prop} {Ψ : Psi}
theorem we_callR2 {Pr : Int → List Int → Prop} {g : Int → List Int → D} {s1 : Sp} {E : XK} {ta : TA} (h : WL c ta ς fun ds ς1 => ∃ p o xs, ds = [.int p, .ref o] ∧ Stands c ς1 o xs ∧ Pr p xs ∧ Φ (g p xs) ς1) : WE c (tCall (spOr s1 (SpR2 c.K Pr g)) [] E ta) ς Φ := fun σ k hh S Q z =>
  h σ k hh S _ fun vs k1 h1 ds ς1 S1 e1 r1 ⟨p, o, xs, ed, st, l, q⟩ => by
    subst ed
    cases r1 with
    | cons r0 r1 =>
      cases r0
      cases r1 with
      | cons r1 r2 =>
        cases r1; cases r2
        exact .inr ⟨o, p, xs, k1, rfl, st.now S1, st.no S1, S1.kh, l, fun v k' h' g r => z v k' h' _ ς1 (S1.grow g) (e1.trans g.kk) r q⟩
end
/-! ### a def that draws and hands lambdas on -/
noncomputable abbrev resT (s l : Addr) (Tb : List (Addr × Str)) (H : Hp) : Hp := fun z => open Classical in if (strmT s l Tb).W z then H z else none
noncomputable abbrev tabC (K : PySem.W.Frag) (s l : Addr) (Tb : List (Addr × Str)) (k H : Hp) : Cn := ⟨K, strmT s l Tb, k, resT s l Tb H, true, fun _ => none⟩
def SpTab (K : PySem.W.Frag) (n : Nat) (Tb : List (Addr × Str)) (Pr : List D → Nat → Prop) (Po : List D → Nat → D → Nat → Prop) : Sp := fun vs H Q _ => vs.length = n ∧ ∃ (s l : Addr) (k : Hp) (as : List D) (b : Nat), RepL K k vs (.ref s :: as) ∧ Same k H ∧ (strmT s l Tb).I b H ∧ (∀ a, (strmT s l Tb).W a → k a = none ∧ H a ≠ none) ∧
  (∀ a ps, k a ≠ some (.tbl ps)) ∧ Pr as b ∧ ∀ d b', Po as b d b' → ∀ v k' h', Grow (strmT s l Tb).W k (resT s l Tb H) k' h' → (strmT s l Tb).I b' h' → Rep K k' v d → Q v h'
section
variable {P : Program} {w : World} {K : PySem.W.Frag} {mg : Str → Option Value} {base : Heap}
theorem tab_run {N : List Str} {n : Nat} {Tb : List (Addr × Str)} {Pr : List D → Nat → Prop} {Po : List D → Nat → D → Nat → Prop} {t : TS} {vs : List V} {H : Hp} {Q : VK} {E : XK} (h : SpTab K n Tb Pr Po vs H Q E)
    (hw : ∀ (s l : Addr) (k0 : Hp) (as : List D) (b : Nat), Pr as b → (D.ref s :: as).length = n → TabR (tabC K s l Tb k0 H) Tb → SubR (tabC K s l Tb k0 H) (strm s l) →
          WS (tabC K s l Tb k0 H) t { δ := startD N (.ref s :: as), b := b } { nx := fun ς => Po as b .non ς.b, rt := fun d ς => Po as b d ς.b }) :
    t { nx := fun _ H' => Q .non H', rt := Q } (L2.start N vs) H := by
  obtain ⟨hl, s, l, k0, as, b, rl, e, hi, hW, hT, hp, hq⟩ := h
  have TR : TabR (tabC K s l Tb k0 H) Tb := strmT_tab rfl rfl hT fun a ps q => by
    have q : (open Classical in if (strmT s l Tb).W a then H a else none) = some (.tbl ps) := q
    split at q
    · assumption
    · cases q
  have S0 : SR (tabC K s l Tb k0 H) { δ := startD N (.ref s :: as), b := b } (L2.start N vs) k0 H := by
    refine ⟨⟨Same.refl _, e, fun a o nw q => ?_, fun a q => ?_, fun _ q _ => q, fun _ _ q => q⟩, hi, fun a wa => ⟨(hW a wa).1, ?_⟩, fun i d q => start_rep rl q, fun p hp => absurd hp (by simp), List.nodup_nil, start_len rl.length, fun _ _ z => by cases z⟩
    · have q : (open Classical in if (strmT s l Tb).W a then H a else none) = some o := q
      rw [if_neg nw] at q
      cases q
    · have q : (open Classical in if (strmT s l Tb).W a then H a else none) ≠ none := q
      split at q
      · exact q
      · exact absurd rfl q
    · show (open Classical in if (strmT s l Tb).W a then H a else none) ≠ none
      rw [if_pos wa]
      exact (hW a wa).2
  refine hw s l k0 as b hp (by rw [← rl.length, hl]) TR (strmT_sub rfl rfl) (L2.start N vs) k0 H S0 _ ?_
  exact ⟨fun σ' k' h' ς' S' _ q => hq .non ς'.b q .non k' h' S'.g S'.i .non, fun _ _ _ _ _ _ q => q.elim, fun _ _ _ _ _ _ q => q.elim, fun v σ' k' h' d ς' S' _ r q => hq d ς'.b q v k' h' S'.g S'.i r⟩
end
section
variable {c : Cn} {ς : Sta} {Φ : D → Sta → Prop} {s l : Addr} {E : XK}
/-- such a def called, the caller's lists all known -/
theorem we_callTab {n j : Nat} {Tb : List (Addr × Str)} {Pr : List D → Nat → Prop} {Po : List D → Nat → D → Nat → Prop} {ta : TA} (V : TabR c Tb) (hR : c.R = strmT s l Tb) (h0 : ∀ a, c.h0 a ≠ none → c.R.W a)
    (h : WL c ta ς fun ds ς1 => ∃ as, ds = .ref s :: as ∧ ds.length = n ∧ ς1.m = [] ∧ Pr as ς1.b ∧ ∀ d b, Po as ς1.b d b → Φ d { ς1 with b := b }) : WE c (tCall (SpTab c.K n Tb Pr Po) [] E ta) ς Φ := fun σ k hh S Q z =>
  h σ k hh S _ fun vs k1 h1 ds ς1 S1 e1 r1 ⟨as, ed, el, em, p, q⟩ => by
    rw [List.append_nil]
    have i1 := S1.i
    rw [hR] at i1
    have w1 : ∀ a, (strmT s l Tb).W a → c.R.W a := fun a wa => by rw [hR]; exact wa
    have wW : ∀ a, (strmT s l Tb).W a → k1 a = none ∧ h1 a ≠ none := fun a wa => ⟨S1.g.dj a (S1.w a (w1 a wa)).1 (S1.w a (w1 a wa)).2, S1.g.hd a (S1.w a (w1 a wa)).2⟩
    refine ⟨by rw [r1.length, el], s, l, k1, as, ς1.b, by rw [← ed]; exact r1, S1.kh, i1, wW, fun a ps q => V.k0 a ps (S1.g.kt a ps q), p, fun d b' po v k' h' g i r => ?_⟩
    have i' : c.R.I b' h' := by rw [hR]; exact i
    refine z v k' h' d { ς1 with b := b' } ⟨⟨S1.g.kk.trans g.kk, g.kh, fun a o nw q => absurd (h0 a (by rw [q]; simp)) nw, fun a q => ?_, fun a q n => ?_, fun a ps q => S1.g.kt a ps (g.kt a ps q)⟩, i', S1.w, fun i d q => ?_, fun p hp => by
      have hp : p ∈ ς1.m := hp
      rw [em] at hp
      exact absurd hp (by simp), S1.nd, S1.len, S1.kb.trans g.kk⟩ (e1.trans g.kk) r (q d b' po)
    · have wa := h0 a q
      exact V.there _ _ _ i' wa
    · have wa := h0 a n
      have wa' : (strmT s l Tb).W a := by rw [← hR]; exact wa
      refine g.dj a (wW a wa').1 ?_
      show (open Classical in if (strmT s l Tb).W a then h1 a else none) ≠ none
      rw [if_pos wa']
      exact (wW a wa').2
    · obtain ⟨v, a, r⟩ := S1.s i d q
      exact ⟨v, a, r.mono g.kk⟩
end
end DL

set_option Elab.async false
set_option linter.all false
set_option maxRecDepth 100000
set_option maxHeartbeats 4000000
/-! a comprehension whose element writes to lists of the def's own -/
namespace DL
open PySem PySem.Spec PyProof.Rows L2 DX
section
variable {c : Cn} {ς : Sta} {Φ : D → Sta → Prop} {Ψ : Psi}
theorem we_lcG {wi : TI} {g : TG} {tt : TT} {te : TE} {vs : List Nat} (kg : KG g vs) (h : WI c wi ς fun ds ς1 => ∃ Jv : Nat → List D → List (Addr × MO) → Nat → Prop, Jv 0 [] ς1.m ς1.b ∧
    (∀ i d acc m b D, ds[i]? = some d → Jv i acc m b → WG c g d { δ := wipeD ς1.δ vs, m := (D, .lst acc) :: m, b := b } fun ς2 => WT c tt ς2 fun x ς3 =>
      (x = true → WE c te ς3 fun e ς4 => acc.length < sizeLine ∧ ∃ m2, ς4.m = (D, .lst acc) :: m2 ∧ Jv (i + 1) (acc ++ [e]) m2 ς4.b) ∧ (x = false → ∃ m2, ς3.m = (D, .lst acc) :: m2 ∧ Jv (i + 1) acc m2 ς3.b)) ∧
    ∀ acc m b, Jv ds.length acc m b → Φ (.lst acc) { ς1 with m := m, b := b }) : WE c (tLc wi g tt te vs) ς Φ := fun σ k hh S Q z =>
  h σ k hh S _ fun J k1 h1 ds ς1 S1 e1 w ⟨Jv, j0, js, jd⟩ L nL => by
    have lower : ∀ {m : List (Addr × MO)} {δ : List (Option D)} {τ : L2.St} {b : Nat} {k2 h2 : Hp}, SR c ⟨δ, m, b⟩ τ k2 h2 → Same k1 k2 → SR c { ς1 with m := m, b := b } σ k2 h2 := fun {m δ τ b k2 h2} S2 e =>
      ⟨S2.g, S2.i, S2.w, fun i d q => by
        obtain ⟨v, a, r⟩ := S1.s i d q
        exact ⟨v, a, r.mono e⟩, S2.m, S2.nd, S1.len, S2.kb⟩
    have nk : k1 L = none := S1.kh.free nL
    have nm : ∀ x ∈ ς1.m, x.1 ≠ L := fun x hx e => (S1.m x hx).2.2.there (by rw [e]; exact nL)
    have n0 : c.h0 L = none := by
      cases y : c.h0 L with
      | none => rfl
      | some o => exact absurd nL (S1.g.hd L (by rw [y]; simp))
    refine lc_it w.walk (fun i h => ∃ k acc m b, SR c { ς1 with m := (L, .lst acc) :: m, b := b } σ k h ∧ Same k1 k ∧ Jv i acc m b) ⟨k1, [], ς1.m, ς1.b, ?_, Same.refl _, j0⟩ (fun i H _ ⟨k, acc, m, b, S, e, _⟩ => ⟨e.trans S.kh, _, _, k, S, e⟩) ?_ ?_
    · have g : Grow (fun _ => False) k1 h1 k1 (upd h1 L (.lst [])) := Grow.newU S1.kh nL
      have S2 := S1.grow g
      refine ⟨S2.g, S2.i, S2.w, S2.s, fun x hx => ?_, ?_, S2.len, S2.kb⟩
      · rcases List.mem_cons.mp hx with e | hx
        · subst e
          exact ⟨nk, .inl n0, [], upd_same, .nil⟩
        · exact S2.m x hx
      · rw [List.map_cons]
        refine List.nodup_cons.mpr ⟨fun hm => ?_, S1.nd⟩
        obtain ⟨x, hx, e⟩ := List.mem_map.mp hm
        exact nm x hx e
    · rintro i x H H' hi ⟨k, acc, m, b, S2, e2, j2⟩ y
      obtain ⟨k', g', r'⟩ := w.yields i H x H' ds[i] (by simp [hi]) y k e2 ⟨S2.kh, _, _, k, S2, Same.refl _⟩
      have S3 := (S2.grow g').wipe vs
      have q := js i ds[i] acc m b L (by simp [hi]) j2 (L2.wipe σ vs) k' H' x S3 r' _ (fun σ4 k4 h4 ς4 S4 e4 q4 => q4 σ4 k4 h4 S4 (fun b H3 => if b = true then te σ4 H3 fun y H4 => ∃ ac, H4 L = some (.lst ac) ∧ ac.length < sizeLine ∧ (∃ k acc m b, SR c { ς1 with m := (L, .lst acc) :: m, b := b } σ k (upd H4 L (.lst (ac ++ [y])))  ∧ Same k1 k ∧ Jv (i + 1) acc m b) else ∃ k acc m b, SR c { ς1 with m := (L, .lst acc) :: m, b := b } σ k H3 ∧ Same k1 k ∧ Jv (i + 1) acc m b) ?_)
      · have q' := kg _ _ _ _ q
        have wi : L2.wipe (L2.wipe σ vs) vs = L2.wipe σ vs := wipe_idem
        rw [wi] at q'
        exact q'
      · intro bb k5 h5 ς5 S5 e5 ⟨qt, qf⟩
        have e15 : Same k1 k5 := (e2.trans g'.kk).trans (e4.trans e5)
        cases bb with
        | false =>
          obtain ⟨m6, em, j⟩ := qf rfl
          obtain ⟨δ5, m5, b5⟩ := ς5
          have em : m5 = _ := em
          subst em
          exact iteF ⟨k5, acc, m6, b5, lower S5 e15, e15, j⟩
        | true =>
          refine iteT (qt rfl σ4 k5 h5 S5 _ fun y k6 h6 d ς6 S6 e6 r6 ⟨l, m7, em, j⟩ => ?_)
          obtain ⟨δ6, m6, b6⟩ := ς6
          have em : m6 = _ := em
          subst em
          have S7 := lower S6 (e15.trans e6)
          obtain ⟨n1, n2, vs', hv, rv⟩ := S7.m (L, .lst acc) List.mem_cons_self
          have n1 : k6 L = none := n1
          have hv : h6 L = some (.lst vs') := hv
          have rv : RepL c.K k6 vs' acc := rv
          have nW : ∀ a o, c.R.W a ∨ IsExt o → h6 a = some o → a ≠ L := fun a o wa q e => by
            rcases wa with wa | wa
            · exact (S7.w a wa).2 (by rw [e]; exact n0)
            · rw [e, hv] at q
              cases q
              exact wa
          refine ⟨vs', hv, by rw [rv.length]; exact l, k6, acc ++ [d], m7, b6, ?_, e15.trans e6, j⟩
          have sk : Same k6 (upd h6 L (.lst (vs' ++ [y]))) := fun a o q => by
            have ne : a ≠ L := fun e => by rw [e, n1] at q; cases q
            rw [upd_ne ne]
            exact S7.kh _ _ q
          refine ⟨⟨S7.g.kk, sk, fun a o na q => ?_, fun a q => ?_, S7.g.dj, S7.g.kt⟩, c.R.st _ _ _ (fun a o wa q => by rw [upd_ne (nW a o wa q)]; exact q) S7.i, S7.w, S7.s, fun x hx => ?_, S7.nd, S7.len, S7.kb⟩
          · have ne : a ≠ L := fun e => by rw [e, n0] at q; cases q
            rw [upd_ne ne]
            exact S7.g.hh a o na q
          · by_cases e : a = L
            · rw [e, upd_same]; simp
            · rw [upd_ne e]; exact S7.g.hd a q
          · rcases List.mem_cons.mp hx with e | hx'
            · subst e
              exact ⟨n1, n2, vs' ++ [y], upd_same, rv.append (.cons r6 .nil)⟩
            · obtain ⟨a1, a2, a3⟩ := S7.m x (List.mem_cons_of_mem _ hx')
              have ne : x.1 ≠ L := fun e => (List.nodup_cons.mp (by have := S7.nd; rwa [List.map_cons] at this)).1 (List.mem_map.mpr ⟨x, hx', e⟩)
              refine ⟨a1, a2, ?_⟩
              obtain ⟨xo, xm⟩ := x
              cases xm with
              | lst ds =>
                obtain ⟨us, q, r⟩ := a3
                exact ⟨us, by rw [upd_ne ne]; exact q, r⟩
              | ins C dx ns ds =>
                obtain ⟨fs, q, n, r⟩ := a3
                exact ⟨fs, by rw [upd_ne ne]; exact q, n, r⟩
              | dct ks ds =>
                obtain ⟨kvs, q, n, r⟩ := a3
                exact ⟨kvs, by rw [upd_ne ne]; exact q, n, r⟩
    · rintro H ⟨k, acc, m, b, S2, e2, j2⟩
      obtain ⟨n1, n2, vs', hv, rv⟩ := S2.m (L, .lst acc) List.mem_cons_self
      have n1 : k L = none := n1
      have hv : H L = some (.lst vs') := hv
      have rv : RepL c.K k vs' acc := rv
      -- the list is known from now on
      have kk : Same k (upd k L (.lst vs')) := same_new n1
      have kh : Same (upd k L (.lst vs')) H := fun a o q => by
        by_cases e : a = L
        · rw [e, upd_same] at q
          rw [e, hv]
          exact q
        · rw [upd_ne e] at q
          exact S2.kh _ _ q
      refine z (.ref L) (upd k L (.lst vs')) H (.lst acc) { ς1 with m := m, b := b } ?_ ((e1.trans e2).trans kk) (.lst upd_same (rv.mono kk)) (jd acc m b j2)
      refine ⟨⟨S2.g.kk.trans kk, kh, S2.g.hh, S2.g.hd, fun a q n => ?_, fun a ps q => ?_⟩, S2.i, S2.w, fun i d q => ?_, fun x hx => ?_, (List.nodup_cons.mp (by have := S2.nd; rwa [List.map_cons] at this)).2, S2.len, S2.kb.trans kk⟩
      · have ne : a ≠ L := fun e => n (by rw [e]; exact n0)
        rw [upd_ne ne]
        exact S2.g.dj a q n
      · by_cases e : a = L
        · rw [e, upd_same] at q; cases q
        · rw [upd_ne e] at q; exact S2.g.kt a ps q
      · obtain ⟨v, a, r⟩ := S2.s i d q
        exact ⟨v, a, r.mono kk⟩
      · obtain ⟨a1, a2, a3⟩ := S2.m x (List.mem_cons_of_mem _ hx)
        exact ⟨by rw [upd_ne (fun e => (List.nodup_cons.mp (by have := S2.nd; rwa [List.map_cons] at this)).1 (List.mem_map.mpr ⟨x, hx, e⟩))]; exact a1, a2, a3.step kk fun _ _ q => q⟩
end
end DL
namespace DL
open PySem PySem.Spec PyProof.Rows L2 DX
section
variable {c : Cn} {ς : Sta} {Φ : D → Sta → Prop} {Ψ : Psi}
/-- xs.pop(i), i told by the walk -/
theorem we_popE {j : Nat} {o : Addr} {to te : TE} (hI : ∀ b h h', c.fr = false → c.R.I b h → c.R.I b h' := by first | exact (fun _ _ _ z => nomatch z) | exact (fun _ _ _ _ z => z))
    (h : WE c to ς fun x ς1 => x = .ref o ∧ (∃ ds, ς1.m[j]? = some (o, .lst ds)) ∧ WE c te ς1 fun e ς2 => ∃ (i : Nat) (d : D) (ds : List D), e = .int (i : Int) ∧ i < 2 ^ 63 ∧ ς2.m[j]? = some (o, .lst ds) ∧ ds[i]? = some d ∧ Φ d { ς2 with m := ς2.m.set j (o, .lst (ds.eraseIdx i)) }) :
    WE c (tBM c.K "list" rPopAt to (tCons te tNil)) ς Φ := fun σ k hh S Q z =>
  h σ k hh S _ fun v k1 h1 x ς1 S1 e1 r1 ⟨ed, ⟨ds0, ej0⟩, q⟩ => by
    subst ed
    cases r1
    obtain ⟨_, _, vs0, hv0, _⟩ := S1.at ej0
    refine ⟨.inl ⟨rfl, vs0, SqL.of hv0⟩, q σ k1 h1 S1 _ fun y k2 h2 e ς2 S2 e2 r2 ⟨i, d, ds, ee, l, ej, ed, q2⟩ => ?_⟩
    subst ee
    cases r2
    obtain ⟨a1, a2, vs, hv, rv⟩ := S2.at ej
    obtain ⟨u, hu, ru⟩ := rv.get ed
    have hi : i < vs.length := (List.getElem?_eq_some_iff.mp hu).1
    refine ⟨o, vs, (i : Int), i, u, rfl, rfl, hv, by omega, by omega, (ixN_seq (by unfold ixN; rw [if_pos (by omega), if_pos (by omega)]; simp)).1, hu, ?_⟩
    exact z u k2 _ d _ (S2.put (mo' := .lst (ds.eraseIdx i)) ej hI ⟨vs.eraseIdx i, upd_same, rv.eraseIdx i⟩) (e1.trans e2) ru q2
theorem rep_rng {K : PySem.W.Frag} {k : Hp} (lo : Int) : ∀ l : List Nat, RepL K k (l.map fun i : Nat => V.int (lo + (i : Int))) (l.map fun i : Nat => D.int (lo + (i : Int)))
  | [] => .nil
  | i :: l => .cons (.int _) (rep_rng lo l)
/-- list(range(n)) -/
theorem we_lstRg1 {te : TE} (h : WE c te ς fun d ς1 => ∃ n : Int, d = .int n ∧ 0 ≤ n ∧ n ≤ 1000000 ∧ Φ (.lst (rngD 0 n.toNat)) ς1) : WE c (tLstRg (tRg1 te)) ς Φ := fun σ k hh S Q z =>
  h σ k hh S _ fun v k1 h1 d ς1 S1 e1 r1 ⟨n, ed, n0, n1, q⟩ => by
    subst ed
    cases r1
    refine ⟨n, rfl, RgOk.of_le (by omega) (by omega) (by omega) (by omega), fun p np => ?_⟩
    have g : Grow No k1 h1 (upd k1 p (.lst (rgV 0 n))) (upd h1 p (.lst (rgV 0 n))) := Grow.new S1.kh np (by nofun)
    refine z (.ref p) _ _ _ ς1 (S1.grow g) (e1.trans g.kk) (.lst upd_same ?_) q
    have e : (n - 0).toNat = n.toNat := by omega
    unfold rgV rngD
    rw [e]
    exact rep_rng 0 _
end
end DL
namespace DK
open PySem PySem.Spec PyProof.Rows L2 DL
variable {X : Cx} {K : PySem.W.Frag} {o e : Expr} {es : List Expr} {to : TE} {t : TA} {name : Str} {apos cpos : Pos} {T id : String} {r : V → List V → Hp → VK → Prop}
theorem pe_bm (pa : PlainAttrs T) (slot : Slot T name id) (hty : typeOf (.builtin id) = pure (.type "method_descriptor")) (hm : MtR X id r) (ho : PE X o to) (ha : PA X (e :: es) t) (h : X.K = K := by rfl)
    (hbase : attributeBase o name X.env (eval o X.env) = eval o X.env := by rfl)
    (hfew : ((backTo cpos (starEach (e :: es) X.env)).all (fun x => !x.1) && (backToKw cpos (keywordEach [] X.env)).all (fun x => x.1.isSome)
      && decide ((e :: es).length + ([] : List Keyword).length + (if ([] : List Keyword).isEmpty then 0 else 1) < 30)) = true := by rfl)
    (hline : (apos.endLine == cpos.line) = true := by rfl) (hs : starEach (e :: es) X.env = (false, eval e X.env) :: starEach es X.env := by rfl) (hplain : (backTo cpos (starEach es X.env)).any (·.1) = false := by rfl) :
    PE X (.Call (.Attribute o name apos) (e :: es) [] cpos) (tBM K T r to t) := by subst h; exact L2.pe_bm pa slot hty hm ho ha hbase hfew hline hs hplain
end DK

set_option Elab.async false
set_option linter.all false
set_option maxRecDepth 100000
set_option maxHeartbeats 4000000
/-! a table of ints that stands at the top; texts and tuples repeated; one of a text's signs -/
namespace DL
open PySem PySem.Spec PyProof.Rows L2 DX
def deI (e : DictEntry) : Option (Int × Int × Int) := match e.key, e.val with
  | .int k _, .int v _ => some (e.hash, k, v)
  | _, _ => none
structure ItK (K : PySem.W.Frag) (a : Addr) (kvs : List (Int × Int)) : Prop where
  at_ : ∃ es n, K.lookup a = some ⟨.type "dict", none, .dict es n, #[]⟩ ∧ es.toList.map deI = kvs.map fun q => some (hashInt q.1, q.1, q.2)
  low : (a == sysModules) = false
def itB (K : PySem.W.Frag) (a : Addr) (kvs : List (Int × Int)) : Bool := match K.lookup a with
  | some ⟨.type c, none, .dict es _, sl⟩ => decide (c = "dict") && (sl.isEmpty && (!(a == sysModules) && decide (es.toList.map deI = kvs.map fun q => some (hashInt q.1, q.1, q.2))))
  | _ => false
theorem itB_ok {K : PySem.W.Frag} {a : Addr} {kvs : List (Int × Int)} (h : itB K a kvs = true) : ItK K a kvs := by
  unfold itB at h
  split at h
  · rename_i c es n sl lk
    simp only [Bool.and_eq_true, decide_eq_true_eq, Bool.not_eq_true'] at h
    obtain ⟨rfl, h2, h3, h4⟩ := h
    have h2 : sl = #[] := Array.isEmpty_iff.mp h2
    subst h2
    exact ⟨⟨es, n, lk, h4⟩, h3⟩
  · cases h
theorem pairs_deI {P : Program} {w : World} : ∀ {es : List DictEntry} {kvs : List (Int × Int)}, es.map deI = kvs.map (fun q => some (hashInt q.1, q.1, q.2)) →
    ∃ vs : List (Int × Value), Pairs (intKind P w) es vs ∧ vs.map (·.1) = kvs.map (·.1) ∧ (∀ e ∈ es, ∃ k, (intKind P w).is k e.key = true ∧ e.hash = (intKind P w).hash k) ∧ ∀ k v, kvs.lookup k = some v → ∃ t, valueAt vs k = some (.int v t)
  | [], [], _ => ⟨[], .nil, rfl, fun _ h => absurd h (by simp), fun _ _ h => by cases h⟩
  | [], _ :: _, h => by cases h
  | _ :: _, [], h => by cases h
  | e :: es, q :: kvs, h => by
    obtain ⟨hs, ky, vl⟩ := e
    injection h with h1 h2
    obtain ⟨vs, p1, p2, p3, p4⟩ := pairs_deI (P := P) (w := w) h2
    unfold deI at h1
    split at h1
    · rename_i k t v u e1 e2
      have e1 : ky = .int k t := e1
      have e2 : vl = .int v u := e2
      subst e1 e2
      have h1 := Option.some.inj h1
      obtain ⟨q1, q2⟩ := q
      have a1 : hs = hashInt q1 := congrArg Prod.fst h1
      have a2 : k = q1 := congrArg (fun z => z.2.1) h1
      have a3 : v = q2 := congrArg (fun z => z.2.2) h1
      subst a1 a2 a3
      refine ⟨(k, .int v u) :: vs, .cons (intKind_is P w k t) rfl p1, by rw [List.map_cons, List.map_cons, p2], fun e he => ?_, fun k' v' hl => ?_⟩
      · rcases List.mem_cons.mp he with rfl | he
        · exact ⟨k, intKind_is P w k t, rfl⟩
        · exact p3 e he
      · unfold valueAt
        rw [List.find?_cons]
        by_cases hk : k = k'
        · subst hk
          rw [List.lookup_cons_self] at hl
          cases hl
          simp only [decide_true]
          exact ⟨u, rfl⟩
        · simp only [decide_eq_false hk]
          rw [List.lookup_cons, beq_eq_false_iff_ne.mpr (Ne.symm hk)] at hl
          exact p4 k' v' hl
    · cases h1
theorem find_keys {vs : List (Int × Value)} {i : Int} : (valueAt vs i).isSome = (vs.map (·.1)).any fun k => decide (k = i) := by
  unfold valueAt
  induction vs with
  | nil => rfl
  | cons q vs ih =>
    rw [List.find?_cons, List.map_cons, List.any_cons, ← ih]
    by_cases h : q.1 = i
    · simp [h]
    · simp [h]
theorem ItK.dict {P : Program} {w : World} {K : PySem.W.Frag} {h : Heap} {a : Addr} {kvs : List (Int × Int)} (c : ItK K a kvs) (I : K.In h) (nd : (kvs.map (·.1)).Nodup) :
    ∃ vs, h.DictOf (intKind P w) a vs ∧ (∀ i, (valueAt vs i).isSome = (kvs.map (·.1)).any fun k => decide (k = i)) ∧ ∀ k v, kvs.lookup k = some v → ∃ t, valueAt vs k = some (.int v t) := by
  obtain ⟨es, n, lk, hm⟩ := c.at_
  obtain ⟨vs, p1, p2, p3, p4⟩ := pairs_deI (P := P) (w := w) hm
  refine ⟨vs, ⟨_, es, n, I _ _ lk, ⟨rfl, rfl, rfl⟩, rfl, fun e he => p3 e (Array.mem_toList_iff.mpr he), p1, by rw [p2]; exact nd⟩, fun i => ?_, p4⟩
  rw [find_keys, p2]
def rTabNin (kvs : List (Int × Int)) (a : Addr) : R2 := fun x y H Q => ∃ i, x = .int i ∧ y = .ref a ∧ Q (.bl (!((kvs.map (·.1)).any fun k => decide (k = i)))) H
def rTabIx (kvs : List (Int × Int)) (a : Addr) : R2 := fun x y H Q => ∃ i v, y = .int i ∧ x = .ref a ∧ kvs.lookup i = some v ∧ Q (.int v) H
theorem op_tabNin {X : Cx} {a : Addr} {kvs : List (Int × Int)} (c : ItK X.K a kvs) (nd : (kvs.map (·.1)).Nodup) : OpR X (compareOp .NotIn) (rTabNin kvs a) := by
  intro pins s σ H x y v u Q I rx ry h
  obtain ⟨i, rfl, rfl, q⟩ := h
  obtain ⟨t, rfl⟩ := rx
  cases ry
  obtain ⟨vs, dd, hv, _⟩ := c.dict (P := X.prog) (w := X.w) I.kIn nd
  refine wpAny_notIn_of (PySem.intKind_is X.prog X.w i t) c.low dd.mapOf ?_
  rw [hv]
  exact ⟨.bl _, H, I.tok _, rfl, q⟩
theorem op_tabIx {X : Cx} {a : Addr} {kvs : List (Int × Int)} (c : ItK X.K a kvs) (nd : (kvs.map (·.1)).Nodup) : IxR X (rTabIx kvs a) := by
  intro value slice pins s σ H x y v u Q I rx ry h hs
  obtain ⟨i, r, rfl, rfl, e, q⟩ := h
  cases rx
  obtain ⟨t, rfl⟩ := ry
  obtain ⟨vs, dd, _, hv⟩ := c.dict (P := X.prog) (w := X.w) I.kIn nd
  obtain ⟨t', ev⟩ := hv i r e
  exact tail_any dd.mapOf.typeIs slot_dict_getitem.lookup (wpAny_getItem_of (PySem.intKind_is X.prog X.w i t) dd.mapOf ev ⟨.int r, H, I.tok _, ⟨t', rfl⟩, q⟩) hs
section
variable {K : PySem.W.Frag} {Φ : D → Prop}
theorem rd_tabNin {kvs : List (Int × Int)} {a : Addr} {i : Int} (q : Φ (.bl (!((kvs.map (·.1)).any fun k => decide (k = i))))) : RD K (rTabNin kvs a) (.int i) (.ref a) Φ := fun k h v1 v2 e r1 r2 Q z => by
  cases r1; cases r2
  exact ⟨i, rfl, rfl, z _ k h _ (Grow.refl e) (.bl _) q⟩
theorem rd_tabIx {kvs : List (Int × Int)} {a : Addr} {i v : Int} (hl : kvs.lookup i = some v) (q : Φ (.int v)) : RD K (rTabIx kvs a) (.ref a) (.int i) Φ := fun k h v1 v2 e r1 r2 Q z => by
  cases r1; cases r2
  exact ⟨i, v, rfl, rfl, hl, z _ k h _ (Grow.refl e) (.int _) q⟩
end
end DL
namespace DL
open PySem PySem.Spec PyProof.Rows L2 DX
def rMulS : R2 := fun x y H Q => ∃ z n, x = .str z ∧ y = .int n ∧ MulOk z n ∧ Q (.str (Txt.mul z n)) H
theorem op_mulS {X : Cx} : OpR X (binaryOp .Mult) rMulS := by
  intro pins s σ H x y v u Q I rx ry h
  obtain ⟨z, n, rfl, rfl, ok, q⟩ := h
  obtain ⟨t, rfl⟩ := rx
  obtain ⟨t2, rfl⟩ := ry
  exact SB.mul ok fun t' k => ⟨.str _, H, I.tok _, ⟨t', rfl⟩, q⟩
section
variable {K : PySem.W.Frag} {Φ : D → Prop}
theorem rd_mulS {z : Str} {n : Int} (ok : MulOk z n) (q : Φ (.str (Txt.mul z n))) : RD K rMulS (.str z) (.int n) Φ := fun k h v1 v2 e r1 r2 Q w => by
  cases r1; cases r2
  exact ⟨z, n, rfl, rfl, ok, w _ k h _ (Grow.refl e) (.str _) q⟩
theorem rd_repT {xs : List D} {n : Int} (ne : xs ≠ []) (l1 : 2 ≤ n) (l2 : n ≤ 1000) (l3 : xs.length ≤ 1000) (q : Φ (.tup (List.replicate n.toNat xs).flatten)) : RD K (rRepT K) (.tup xs) (.int n) Φ := fun k h v1 v2 e r1 r2 Q z => by
  cases r1 with
  | tup h1 r1 =>
    cases r2
    refine ⟨_, _, _, rfl, rfl, Same.sqt e h1, fun z => ne (List.length_eq_zero_iff.mp (by rw [← r1.length, z]; rfl)), l1, l2, by rw [r1.length]; exact l3, fun p n => ?_⟩
    have g : ∀ {o}, NT o → Grow No k h (upd k p o) (upd h p o) := fun t => Grow.new e n t
    exact z _ _ _ _ (g (by nofun)) (.tup (.inl (.inl upd_same)) ((r1.rep _).mono (g (by nofun)).kk)) q
end
end DL
namespace DK
open PySem PySem.Spec PyProof.Rows L2 DL
theorem op_repT {X : Cx} {K : PySem.W.Frag} (h : X.K = K := by rfl) : OpR X (binaryOp .Mult) (rRepT K) := by subst h; exact L2.op_repT
theorem op_tabNin {X : Cx} {K : PySem.W.Frag} {a : Addr} {kvs : List (Int × Int)} (c : ItK K a kvs) (nd : (kvs.map (·.1)).Nodup) (h : X.K = K := by rfl) : OpR X (compareOp .NotIn) (rTabNin kvs a) := by subst h; exact DL.op_tabNin c nd
theorem op_tabIx {X : Cx} {K : PySem.W.Frag} {a : Addr} {kvs : List (Int × Int)} (c : ItK K a kvs) (nd : (kvs.map (·.1)).Nodup) (h : X.K = K := by rfl) : IxR X (rTabIx kvs a) := by subst h; exact DL.op_tabIx c nd
end DK

set_option Elab.async false
set_option linter.all false
set_option maxRecDepth 100000
set_option maxHeartbeats 4000000
/-! lists of the caller's that stay through a lambda's call; C(..) with such a list amid its things, refused; a law with two tables -/
namespace DL
open PySem PySem.Spec PyProof.Rows L2 DX
/-- the list at o stays through the def's run -/
structure HRD (c : Cn) (o : Addr) (ds : List D) : Prop where
  at_ : ∃ vs, c.h0 o = some (.lst vs) ∧ RepL c.K c.k0 vs ds
  nw : ¬ c.R.W o
  kn : c.k0 o = none
theorem HRD.now {c : Cn} {o : Addr} {ds : List D} {ς : Sta} {σ : L2.St} {k h : Hp} (r : HRD c o ds) (S : SR c ς σ k h) : ∃ vs, h o = some (.lst vs) ∧ RepL c.K k vs ds ∧ k o = none := by
  obtain ⟨vs, a1, a2⟩ := r.at_
  exact ⟨vs, S.g.hh _ _ r.nw a1, a2.mono S.g.kk, S.g.dj o r.kn (by rw [a1]; simp)⟩
section
variable {c : Cn} {ς : Sta} {Φ : D → Sta → Prop} {Ψ : Psi}
theorem we_lamM {Tb : List (Addr × Str)} {t : XK → TE} {T : Addr → Addr → (XK → Hp → VK → Prop) → TS} {Ng : List Str} {q : Str} {Φb : D → Prop} {Xb : XD} (V : TabR c Tb)
    (hb : ∀ c3 : Cn, c3.K = c.K → c3.fr = true → (∀ o ds, (o, MO.lst ds) ∈ ς.m → HRD c3 o ds) → ∀ E, XOk c3 E (fun C ns fs ς1 => Xb C ns fs ∧ ς1 = { δ := ς.δ, b := ς.b }) → WE c3 (t E) { δ := ς.δ, b := ς.b } fun d ς1 => Φb d ∧ ς1 = { δ := ς.δ, b := ς.b })
    (hg : ∀ c3 : Cn, c3.K = c.K → c3.fr = true → ∀ f c' tl, (∀ b h, c3.R.I b h → h c' = some (LamX.CodeO c' q)) → TlOk c3 ς.b tl Φb Xb →
      WS c3 (T f c' tl) { δ := startD Ng [.ref f], b := ς.b } { nx := fun ς1 => Φ .non { ς with b := ς1.b }, rt := fun d ς1 => Φ d { ς with b := ς1.b } }) :
    WE c (LamX.tLam Tb (TTof q Ng T) t) ς Φ := fun σ k h S Q z => ⟨V.tabs _ _ S.i, fun H1 eN T1 f c' hc => by
  have kN : ∀ a ps, k a ≠ some (.tbl ps) := fun a ps q => V.k0 a ps (S.g.kt a ps q)
  have I1 : c.R.I ς.b H1 := V.ext _ _ _ S.i eN T1
  have kH1 : Same k H1 := fun a o q => eN a o (S.kh a o q) fun ps e => kN a ps (by rw [q, e])
  have S1 : SR c ς σ k H1 := by
    have hh : ∀ a o, ¬ c.R.W a → c.h0 a = some o → H1 a = some o := fun a o nw q => eN a o (S.g.hh a o nw q) fun ps e => nw (V.h0 a ps (by rw [q, e]))
    refine ⟨⟨S.g.kk, kH1, hh, fun a q => ?_, S.g.dj, S.g.kt⟩, I1, S.w, S.s, fun p hp => ?_, S.nd, S.len, S.kb⟩
    · by_cases wa : c.R.W a
      · exact V.there _ _ _ I1 wa
      · cases e : c.h0 a with
        | none => exact absurd e q
        | some o => rw [hh a o wa e]; simp
    · obtain ⟨a1, a2, a3⟩ := S.m p hp
      refine ⟨a1, a2, ?_⟩
      obtain ⟨o, mo⟩ := p
      cases mo with
      | lst ds => obtain ⟨vs, q, r⟩ := a3; exact ⟨vs, eN _ _ q (by nofun), r⟩
      | ins C dx ns ds => obtain ⟨fs, q, n, r⟩ := a3; exact ⟨fs, eN _ _ q (by nofun), n, r⟩
      | dct ks ds => obtain ⟨kvs, q, n, r⟩ := a3; exact ⟨kvs, eN _ _ q (by nofun), n, r⟩
  let R3 : Res := ⟨c.R.W, fun b h => c.R.I b h ∧ h c' = some (LamX.CodeO c' q), fun b h h' st ⟨x, y⟩ => ⟨c.R.st b h h' st x, st c' _ (.inr trivial) y⟩⟩
  let c3 : Cn := ⟨c.K, R3, k, H1, true, k⟩
  have W3 : ∀ a, c.R.W a → k a = none ∧ H1 a ≠ none := fun a wa => ⟨S.g.dj a (S.w a wa).1 (S.w a wa).2, V.there _ _ _ I1 wa⟩
  have S3 : SR c3 { δ := startD Ng [.ref f], b := ς.b } (L2.start Ng [.ref f]) k H1 :=
    ⟨Grow.refl kH1, ⟨I1, hc⟩, W3, fun i d q => start_rep (ds := [.ref f]) (.cons (.ref f) .nil) q, fun p hp => absurd hp (by simp), List.nodup_nil, start_len rfl, Same.refl _⟩
  have HQ : ∀ k2 o ds, (o, MO.lst ds) ∈ ς.m → HRD (c3.at k2) o ds := fun k2 o ds hp => by
    obtain ⟨a1, a2, vs, q, r⟩ := S1.m _ hp
    refine ⟨⟨vs, q, r⟩, fun wa => ?_, a1⟩
    rcases a2 with a2 | ⟨a2, _⟩
    · exact (S1.w o wa).2 a2
    · rw [V.fr] at a2
      cases a2
  have tl : TlOk c3 ς.b (fun E H' Q' => t E σ H' Q') Φb Xb := by
    intro σ2 k2 h2 ς2 S2 hm hβ E Q' q1 q2
    have back : ∀ {ς1 : Sta} {k' h' : Hp}, ς1.b = ς.b → SR (c3.at k2) ς1 σ k' h' → SR c3 ς2 σ2 k' h' := fun {ς1 k' h'} eb S' =>
      ⟨S'.g, by rw [hβ, ← eb]; exact S'.i, S'.w, fun i d q => by
        obtain ⟨v, a, r⟩ := S2.s i d q
        exact ⟨v, a, r.mono S'.kb⟩, fun p hp => by rw [hm] at hp; exact absurd hp (by simp), S2.nd, S2.len, S2.kb.trans S'.kb⟩
    have Sb : SR (c3.at k2) { δ := ς.δ, b := ς.b } σ k2 h2 := ⟨S2.g, by have := S2.i; rw [hβ] at this; exact this, S2.w, fun i d q => by
      obtain ⟨v, a, r⟩ := S.s i d q
      exact ⟨v, a, r.mono S2.g.kk⟩, fun p hp => absurd hp (by simp), List.nodup_nil, S.len, Same.refl _⟩
    refine hb (c3.at k2) rfl rfl (HQ k2) E (fun C ns fs dd ws σ' k' h' ς' S' a r ⟨x, e⟩ => ?_) σ k2 h2 Sb Q' fun v k' h' d ς1 S' e r ⟨x, eς⟩ => ?_
    · subst e
      refine q2 C ns fs dd ws k' h' ⟨S'.g, by rw [hβ]; exact S'.i, S'.w, fun i d q => ?_, fun p hp => ?_, S2.nd, S2.len, S2.kb.trans S'.kb⟩ S'.kb a r x
      · obtain ⟨v, a, r⟩ := S2.s i d q
        exact ⟨v, a, r.mono S'.kb⟩
      · rw [hm] at hp
        exact absurd hp (by simp)
    · subst eς
      exact q1 v k' h' d (back (ς1 := { δ := ς.δ, b := ς.b }) rfl S') e r x
  have fin : ∀ {ς' : Sta} {σ' : L2.St} {k' h' : Hp}, SR c3 ς' σ' k' h' → SR c { ς with b := ς'.b } σ k' h' := fun {ς' σ' k' h'} S' => S1.after S'.g S'.i.1 V.fr
  exact hg c3 rfl rfl f c' _ (fun b h x => x.2) tl (L2.start Ng [.ref f]) k H1 S3 _ ⟨fun σ' k' h' ς' S' e x => z .non k' h' .non _ (fin S') e .non x, fun _ _ _ _ _ _ x => x.elim, fun _ _ _ _ _ _ x => x.elim, fun v σ' k' h' d ς' S' e r x => z v k' h' d _ (fin S') e r x⟩⟩

theorem repL_swap {K : PySem.W.Frag} {k kq : Hp} {q : Addr} {dq L2' : List D} (e : Same k kq) (r : Rep K kq (.ref q) (.lst dq)) : ∀ {L1 : List D} {vs : List V}, RepL K k vs (L1 ++ [.ref q] ++ L2') → RepL K kq vs (L1 ++ [.lst dq] ++ L2')
  | [], _, .cons (.ref _) t => .cons r (t.mono e)
  | _ :: L1, _, .cons h t => .cons (h.mono e) (repL_swap e r t)
theorem repL_ints {K : PySem.W.Frag} {k k' : Hp} : ∀ {xs : List Int} {vs : List V}, RepL K k vs (xs.map D.int) → RepL K k' vs (xs.map D.int)
  | [], _, .nil => .nil
  | _ :: _, _, .cons (.int i) t => .cons (.int i) (repL_ints t)
/-- C(d0, a list with such a list in it, d2) is refused -/
theorem we_makeX {C q : Addr} {g : List D → Option OutI} {E : XK} {ta : TA} {X : XT} {dq : List D} {C' : Addr} {ns : List Str} {xs : List Int} (hE : XOk c E X) (hq : HRD c q dq)
    (h : WL c ta ς fun ds ς1 => ∃ L1 L2' d0 d2, ds = [d0, .lst (L1 ++ [.ref q] ++ L2'), d2] ∧ g [d0, .lst (L1 ++ [.lst dq] ++ L2'), d2] = some (.exc C' ns (xs.map D.int)) ∧ X C' ns (xs.map D.int) ς1) :
    WE c (tMake C (SpI c.K 4 C (spcI g)) [] E ta) ς Φ := fun σ k hh S Q z =>
  h σ k hh S _ fun vs k1 h1 ds ς1 S1 e1 r1 ⟨L1, L2', d0, d2, ed, hg, hX⟩ x dx nx ndx nex => by
    subst ed
    rw [List.append_nil]
    obtain ⟨vq, hq1, rq, kq0⟩ := hq.now S1
    have kx : k1 x = none := S1.kh.free nx
    have qx : q ≠ x := fun e => by rw [e, nx] at hq1; cases hq1
    have qdx : q ≠ dx := fun e => by rw [e, ndx] at hq1; cases hq1
    have eq1 : Same k1 (upd k1 q (.lst vq)) := same_new kq0
    have eq2 : Same (upd k1 q (.lst vq)) h1 := fun a o qq => by
      by_cases ea : a = q
      · rw [ea, upd_same] at qq
        rw [ea, hq1]
        exact qq
      · rw [upd_ne ea] at qq
        exact S1.kh _ _ qq
    have rR : Rep c.K (upd k1 q (.lst vq)) (.ref q) (.lst dq) := .lst upd_same (rq.mono eq1)
    have s1 : Same (upd k1 q (.lst vq)) (upd (upd h1 dx (.own x)) x (.ins C dx [])) := eq2.trans ((same_new ndx).trans (same_new (by rw [upd_ne (fun e => nex e.symm)]; exact nx)))
    have kqx : (upd k1 q (.lst vq)) x = none := by rw [upd_ne (fun e => qx e.symm)]; exact kx
    have rr : RepL c.K (upd k1 q (.lst vq)) vs [d0, .lst (L1 ++ [.lst dq] ++ L2'), d2] := by
      cases r1 with
      | cons ra r1 => cases r1 with
        | cons rb r1 => cases r1 with
          | cons rc r1 =>
            cases r1
            cases rb with
            | lst hb rb => exact .cons (ra.mono eq1) (.cons (.lst (eq1 _ _ hb) (repL_swap eq1 rR rb)) (.cons (rc.mono eq1) .nil))
    have lv : vs.length = 3 := rr.length
    refine ⟨by rw [List.length_cons, lv], x, dx, vs, upd k1 q (.lst vq), _, rfl, upd_same, kqx, rr, s1, ⟨_, hg⟩, fun ns fs hp => ?_, fun C2 ns2 fs2 hx dd ws k' h' g2 _ e r => ?_⟩
    · have e := hg.symm.trans hp
      cases e
    · have e' := hg.symm.trans hx
      cases e'
      have g3 := made_back (C := C) (k1 := upd k1 q (.lst vq)) nx ndx g2
      have hk' : k' q = some (.lst vq) := g3.kk _ _ upd_same
      have kk2 : Same k1 (fun a => if a = q then none else k' a) := fun a o qq => by
        have ea : a ≠ q := fun e => by rw [e, kq0] at qq; cases qq
        show (if a = q then none else k' a) = some o
        rw [if_neg ea]
        exact g3.kk _ _ (by rw [upd_ne ea]; exact qq)
      have g4 : Grow No k1 h1 (fun a => if a = q then none else k' a) h' := by
        refine ⟨kk2, fun a o qq => ?_, g3.hh, g3.hd, fun a qq n => ?_, fun a ps qq => ?_⟩
        · have qq : (if a = q then none else k' a) = some o := qq
          split at qq
          · cases qq
          · exact g3.kh _ _ qq
        · show (if a = q then none else k' a) = none
          split
          · rfl
          · rename_i ea
            exact g3.dj a (by rw [upd_ne ea]; exact qq) n
        · have qq : (if a = q then none else k' a) = some (.tbl ps) := qq
          split at qq
          · cases qq
          · rename_i ea
            have z := g3.kt a ps qq
            rw [upd_ne ea] at z
            exact z
      refine hE C' ns (xs.map D.int) dd ws σ (fun a => if a = q then none else k' a) h' ς1 (S1.grow g4) ?_ (repL_ints r) hX
      unfold XAt at e ⊢
      cases ns with
      | nil => exact e
      | cons f ns =>
        obtain ⟨d, ed, ek⟩ := e
        refine ⟨d, ed, ?_⟩
        have dq' : d ≠ q := fun z => by rw [z, hk'] at ek; cases ek
        show (if d = q then none else k' d) = _
        rw [if_neg dq']
        exact ek
end
end DL
namespace DL
open PySem PySem.Spec PyProof.Rows L2 DX
/-! ### a law with two tables of code objects -/
abbrev lawC2 (K : PySem.W.Frag) (s l t1 t2 : Addr) (q1 q2 : Str) (h : Hp) : Cn := ⟨K, strmT s l [(t1, q1), (t2, q2)], fun _ => none, fun z => if z = s ∨ z = l ∨ z = t1 ∨ z = t2 then h z else none, true, fun _ => none⟩
theorem lawC2_tab {K : PySem.W.Frag} {s l t1 t2 : Addr} {q1 q2 : Str} {h : Hp} : TabR (lawC2 K s l t1 t2 q1 q2 h) [(t1, q1), (t2, q2)] := by
  refine strmT_tab rfl rfl (fun a ps z => by cases z) fun a ps z => ?_
  have z : (if a = s ∨ a = l ∨ a = t1 ∨ a = t2 then h a else none) = some (.tbl ps) := z
  split at z
  · rename_i hc
    rcases hc with e | e | e | e
    · exact .inl e
    · exact .inr (.inl e)
    · exact .inr (.inr ⟨q1, by rw [e]; exact List.mem_cons_self⟩)
    · exact .inr (.inr ⟨q2, by rw [e]; exact List.mem_cons_of_mem _ List.mem_cons_self⟩)
  · cases z
theorem lawC2_h0 {K : PySem.W.Frag} {s l t1 t2 : Addr} {q1 q2 : Str} {h : Hp} (z : Addr) (hz : (lawC2 K s l t1 t2 q1 q2 h).h0 z ≠ none) : (lawC2 K s l t1 t2 q1 q2 h).R.W z := by
  have hz : (if z = s ∨ z = l ∨ z = t1 ∨ z = t2 then h z else none) ≠ none := hz
  split at hz
  · rename_i hc
    rcases hc with e | e | e | e
    · exact .inl e
    · exact .inr (.inl e)
    · exact .inr (.inr ⟨q1, by rw [e]; exact List.mem_cons_self⟩)
    · exact .inr (.inr ⟨q2, by rw [e]; exact List.mem_cons_of_mem _ List.mem_cons_self⟩)
  · exact absurd rfl hz
theorem law_sr2 {K : PySem.W.Frag} {H : Hp} {l s t1 t2 : Addr} {q1 q2 : Str} {ns : List Int} {σ : L2.St} {δ : List (Option D)} (hl : H l = none) (hs : H s = none) (hne : l ≠ s) (ht1 : H t1 = some (.tbl #[])) (ht2 : H t2 = some (.tbl #[])) (hσ : ∀ (i : Nat) (d : D), δ[i]? = some (some d) → d = .ref s ∧ σ[i]? = some (some (V.ref s))) (hlen : δ.length = σ.length) :
    SR (lawC2 K s l t1 t2 q1 q2 (upd (upd H l (.lst (ns.map V.int))) s (.lst [.ref l, .int 0, .int 0, .int 11]))) { δ := δ, b := 0 } σ (fun _ => none) (upd (upd H l (.lst (ns.map V.int))) s (.lst [.ref l, .int 0, .int 0, .int 11])) := by
  have tl : ∀ {t : Addr}, H t = some (.tbl #[]) → t ≠ l := fun h e => by rw [e, hl] at h; cases h
  have ts : ∀ {t : Addr}, H t = some (.tbl #[]) → t ≠ s := fun h e => by rw [e, hs] at h; cases h
  have e1 : upd (upd H l (.lst (ns.map V.int))) s (.lst [.ref l, .int 0, .int 0, .int 11]) s = some (.lst [.ref l, .int 0, .int 0, .int 11]) := upd_same
  have e2 : upd (upd H l (.lst (ns.map V.int))) s (.lst [.ref l, .int 0, .int 0, .int 11]) l = some (.lst (ns.map V.int)) := by rw [upd_ne hne, upd_same]
  have e3 : ∀ {t : Addr}, H t = some (.tbl #[]) → upd (upd H l (.lst (ns.map V.int))) s (.lst [.ref l, .int 0, .int 0, .int 11]) t = some (.tbl #[]) := fun h => by rw [upd_ne (ts h), upd_ne (tl h)]; exact h
  refine ⟨⟨Same.refl _, fun _ _ z => (nomatch z), fun z o _ hz => ?_, fun z hz => ?_, fun _ z _ => z, fun _ _ z => (nomatch z)⟩, ⟨⟨hne.symm, ns, 0, 0, 11, e1, e2, by omega, by simp, by omega, by omega⟩, fun p hp => ?_⟩, fun z hz => ⟨rfl, ?_⟩, fun i d hi => ?_, fun p hp => absurd hp (by simp), List.nodup_nil, hlen, fun _ _ z => (nomatch z)⟩
  · have hz : (if z = s ∨ z = l ∨ z = t1 ∨ z = t2 then _ else none) = some o := hz
    split at hz
    · exact hz
    · cases hz
  · have hz : (if z = s ∨ z = l ∨ z = t1 ∨ z = t2 then _ else none) ≠ none := hz
    split at hz
    · exact hz
    · exact absurd rfl hz
  · simp only [List.mem_cons, List.not_mem_nil, or_false] at hp
    rcases hp with rfl | rfl
    · exact LamX.TabS.nil (e3 ht1)
    · exact LamX.TabS.nil (e3 ht2)
  · show (if z = s ∨ z = l ∨ z = t1 ∨ z = t2 then _ else none) ≠ none
    rcases hz with e | e | ⟨q', hq⟩
    · rw [if_pos (.inl e), e, e1]; simp
    · rw [if_pos (.inr (.inl e)), e, e2]; simp
    · simp only [List.mem_cons, List.not_mem_nil, or_false, Prod.mk.injEq] at hq
      rcases hq with ⟨e, _⟩ | ⟨e, _⟩
      · rw [if_pos (.inr (.inr (.inl e))), e, e3 ht1]; simp
      · rw [if_pos (.inr (.inr (.inr e))), e, e3 ht2]; simp
  · obtain ⟨rfl, h2⟩ := hσ i d hi
    exact ⟨_, h2, .ref s⟩
end DL

set_option Elab.async false
set_option linter.all false
set_option maxRecDepth 100000
set_option maxHeartbeats 4000000
/-! len(o) by an own def; one of a text's or a list's things -/
namespace DL
open PySem PySem.Spec PyProof.Rows L2 DX
def rLenI (C : Addr) (sp : Sp) (E : XK) : List V → Hp → VK → Prop := fun xs H Q => ∃ a dx fs, xs = [.ref a] ∧ H a = some (.ins C dx fs) ∧ sp [.ref a] H (fun z H' => ∃ i, z = .int i ∧ 0 ≤ i ∧ i < 2 ^ 63 ∧ Q (.int i) H') E
theorem call_lenI {X : Cx} {C : Addr} {k j : Nat} {sp : Sp} {E : XK} (c : MetX X.prog X.w X.K X.mg X.base k C "__len__" sp) (hr : Room j X.A) (hk : k + 1 ≤ j) (hx : Passes (L2.CX X.prog X.w) X E) : CallR X (.builtin "len") (rLenI C sp E) := by
  intro pins s σ H xs us Q I r h
  obtain ⟨f, fd, ps, cl, hm, F, hb⟩ := c.ex
  obtain ⟨a, dx, fs, rfl, ha, q⟩ := h
  obtain ⟨u, rfl, ru⟩ := r.one
  cases (show u = Value.ref a from ru)
  obtain ⟨mA, O, _⟩ := ins_get I.hok ha
  obtain ⟨od, J, _⟩ := O.look
  obtain ⟨m, hF⟩ := I.fr
  have F2 := F.raw hb (ds := []) (dvs := []) .nil
  have hr2 : Room k X.A.in1 := (show Room (k + 1) X.A from hr.mono hk).in1
  refine PySem.W.len_K hF I.ok.mod.kin J hm.at_ hm.fn (wpAny_mono (wpAny_call (SlX.run_at (us := [.ref a]) (ws := [.ref a]) F2 hr2 I.env0.in1 hx I (.cons rfl .nil) q)) (fun w s' z => ?_) fun _ _ x => x)
  obtain ⟨z', H', I', rz, i, ei, i0, i1, qz⟩ := z
  subst ei
  obtain ⟨t, e⟩ := (show ∃ t, w = Value.int i t from rz)
  cases e
  exact ⟨⟨i0, i1⟩, .int i, H', I'.tok _, ⟨_, rfl⟩, qz⟩
theorem rc_lenO {K : PySem.W.Frag} {C : Addr} {ns : List Str} {fs : List D} {g : List D → Option Out} {E : XK} {i : Int} {Φ : D → Prop} (hg : g [.obj C ns fs] = some (.ret (.int i))) (i0 : 0 ≤ i) (i1 : i < 2 ^ 63) (q : Φ (.int i)) : RC K (rLenI C (SpS K 1 (spcF g)) E) [.obj C ns fs] Φ := fun k h vs e r Q z => by
  have rr := r
  cases r with
  | cons r1 r2 =>
    cases r2
    cases r1 with
    | obj ek en er =>
      refine ⟨_, _, _, rfl, e _ _ ek, rfl, Res.none, k, _, 0, rr, e, trivial, fun a z => z.elim, ⟨_, hg⟩, fun d b q' v k' h' g' _ r => ?_, fun C ns fs b q' dd ws k' h' g' _ e r => ?_⟩
      · have e := hg.symm.trans q'.1
        cases e
        cases r
        exact ⟨i, rfl, i0, i1, z _ _ _ _ g' (.int i) q⟩
      · have e := hg.symm.trans q'.1
        cases e
/-- the things of a list, the signs of a text -/
def itemsP : D → Option (List D)
  | .lst l => some l
  | .str z => some (z.cps.toList.map fun c => .str ⟨#[c]⟩)
  | _ => none
abbrev pickX : Spc := drawSpc (fun as b => ∃ x l, as = [x] ∧ itemsP x = some l ∧ 0 < l.length ∧ l.length ≤ 1000000 ∧ b ≤ 1000000000000) (fun as b d b' => ∃ x l, as = [x] ∧ itemsP x = some l ∧ d ∈ l ∧ b' = b + 1)
section
variable {c : Cn} {ς : Sta} {Φ : D → Sta → Prop} {s l : Addr} {E : XK}
theorem we_pickX {j : Nat} {te : TE} (V : SubR c (strm s l)) (h0 : ς.δ[j]? = some (some (.ref s))) (h : WE c te ς fun d ς1 => ∃ ll, itemsP d = some ll ∧ 0 < ll.length ∧ ll.length ≤ 1000000 ∧ ς1.b ≤ 1000000000000 ∧ ∀ x ∈ ll, Φ x { ς1 with b := ς1.b + 1 }) :
    WE c (tCall (SpS c.K 2 pickX) [] E (tCons (tVar j) (tCons te tNil))) ς Φ := by
  refine we_callR V (X := fun _ _ _ _ => False) xok0 (wl_cons (we_var h0 (wl_cons fun σ k hh S Q z => h σ k hh S Q fun v k' h' d ς' S' e r ⟨ll, ed, h1, h2, h3, h4⟩ => z v k' h' d ς' S' e r (wl_nil ⟨rfl, ⟨s, l, _, rfl, rfl, d, ll, rfl, ed, h1, h2, h3⟩, ?_, fun _ _ _ _ z => z⟩))))
  rintro d' b ⟨a, as, e, x, ll', e2, e3, x1, rfl⟩
  cases e
  cases e2
  have e4 := ed.symm.trans e3
  cases e4
  exact h4 d' x1
end
end DL
namespace DK
open PySem PySem.Spec PyProof.Rows L2 DL
/-- len(o), told where o is an instance -/
theorem lenI {X : Cx} {P : Program} {w : World} {K : PySem.W.Frag} {mg : Str → Option Value} {base : Heap} {A : Around} {C : Addr} {k j : Nat} {sp : Sp} {E : XK} (c : MetX P w K mg base k C "__len__" sp) (hr : Room j A) (hk : k + 1 ≤ j) (hx : Passes (L2.CX X.prog X.w) X E) (o : Of X P w K mg base A := by exact ⟨rfl, rfl, rfl, rfl, rfl, rfl⟩) : CallR X (.builtin "len") (rLenI C sp E) := by
  obtain ⟨h1, h2, h3, h4, h5, h6⟩ := o
  subst h1 h2 h3 h4 h5 h6
  exact call_lenI c hr hk hx
end DK

set_option Elab.async false
set_option linter.all false
set_option maxRecDepth 100000
set_option maxHeartbeats 4000000
/-! a + b of two lists, a new list to be written -/
namespace DL
open PySem PySem.Spec PyProof.Rows L2 DX
section
variable {c : Cn} {ς : Sta} {Φ : D → Sta → Prop} {Ψ : Psi}
theorem we_addM {ta tb : TE} (h : WE c ta ς fun d1 ς1 => WE c tb ς1 fun d2 ς2 => ∃ xs ys, d1 = .lst xs ∧ d2 = .lst ys ∧ xs.length + ys.length ≤ sizeLine ∧ ∀ p, (∀ x ∈ ς2.m, x.1 ≠ p) → Φ (.ref p) { ς2 with m := (p, .lst (xs ++ ys)) :: ς2.m }) :
    WE c (tOp (rAddK c.K) ta tb) ς Φ := fun σ k hh S Q z =>
  h σ k hh S _ fun v1 k1 h1 d1 ς1 S1 e1 r1 q1 => q1 σ k1 h1 S1 _ fun v2 k2 h2 d2 ς2 S2 e2 r2 ⟨xs, ys, ed1, ed2, l, q⟩ => by
    subst ed1
    subst ed2
    cases r1 with
    | lst ek er =>
      cases r2 with
      | lst ek2 er2 =>
        refine .inr (.inr (.inl ⟨_, _, _, _, rfl, rfl, S2.kh _ _ (e2 _ _ ek), S2.kh _ _ ek2, by rw [er.length, er2.length]; exact l, fun p np => ?_⟩))
        obtain ⟨S3, nm⟩ := S2.newM np ((er.mono e2).append er2)
        exact z (.ref p) k2 _ _ _ S3 (e1.trans e2) (.ref p) (q p nm)
/-- what is not looked at any more behind a statement -/
theorem ws_end {j : Nat} {t : TS} (h : WS c t ς { Ψ with nx := fun ς1 => Ψ.nx { ς1 with m := ς1.m.eraseIdx j } }) : WS c t ς Ψ := fun σ k hh S E z =>
  h σ k hh S E ⟨fun σ' k' h' ς' S' e p => z.nx σ' k' h' { ς' with m := ς'.m.eraseIdx j } ⟨S'.g, S'.i, S'.w, S'.s, fun p hp => S'.m p (List.mem_of_mem_eraseIdx hp), by
    show ((ς'.m.eraseIdx j).map (·.1)).Nodup
    exact S'.nd.sublist ((List.eraseIdx_sublist ς'.m j).map _), S'.len, S'.kb⟩ e p, z.bk, z.ct, z.rt⟩
end
end DL

set_option Elab.async false
set_option linter.all false
set_option maxRecDepth 100000
set_option maxHeartbeats 4000000
/-! a, b, c = x, y, z -/
namespace DL
open PySem PySem.Spec PyProof.Rows L2 DX
section
variable {c : Cn} {ς : Sta} {Φ : D → Sta → Prop} {Ψ : Psi}
theorem ws_par3 {i j l : Nat} {ta : TA} (h : WL c ta ς fun ds ς1 => ∃ d e f, ds = [d, e, f] ∧ i < ς1.δ.length ∧ j < ς1.δ.length ∧ l < ς1.δ.length ∧ Ψ.nx { ς1 with δ := ((ς1.δ.set i (some d)).set j (some e)).set l (some f) }) : WS c (tPar3 i j l ta) ς Ψ := fun σ k hh S E z =>
  h σ k hh S _ fun vs k1 h1 ds ς1 S1 e1 r1 ⟨d, e, f, ed, hi, hj, hl, q⟩ => by
    subst ed
    cases r1 with
    | cons ra r1 => cases r1 with
      | cons rb r1 => cases r1 with
        | cons rd r1 =>
          cases r1
          exact ⟨_, _, _, rfl, z.nx _ k1 h1 _ (((S1.set ra hi).set (i := j) rb (by show j < (ς1.δ.set i _).length; rw [List.length_set]; exact hj)).set (i := l) rd (by show l < ((ς1.δ.set i _).set j _).length; rw [List.length_set, List.length_set]; exact hl)) e1 q⟩
theorem parC {x y z : D} {i j l n : Nat} {P : D → D → D → Prop} (hi : Nat.blt i n = true) (hj : Nat.blt j n = true) (hl : Nat.blt l n = true) (q : P x y z) : ∃ d e f, [x, y, z] = [d, e, f] ∧ i < n ∧ j < n ∧ l < n ∧ P d e f := ⟨x, y, z, rfl, Nat.blt_eq.mp hi, Nat.blt_eq.mp hj, Nat.blt_eq.mp hl, q⟩
end
end DL

set_option Elab.async false
set_option linter.all false
set_option maxRecDepth 100000
set_option maxHeartbeats 4000000
/-! a law with any tables of code objects -/
namespace DL
open PySem PySem.Spec PyProof.Rows L2 DX
open Classical in
noncomputable abbrev lawCT (K : PySem.W.Frag) (s l : Addr) (Tb : List (Addr × Str)) (h : Hp) : Cn := ⟨K, strmT s l Tb, fun _ => none, fun z => if z = s ∨ z = l ∨ ∃ q, (z, q) ∈ Tb then h z else none, true, fun _ => none⟩
open Classical in
theorem lawCT_tab {K : PySem.W.Frag} {s l : Addr} {Tb : List (Addr × Str)} {h : Hp} : TabR (lawCT K s l Tb h) Tb := by
  refine strmT_tab rfl rfl (fun a ps z => by cases z) fun a ps z => ?_
  have z : (if a = s ∨ a = l ∨ ∃ q, (a, q) ∈ Tb then h a else none) = some (.tbl ps) := z
  split at z
  · rename_i hc
    exact hc
  · cases z
open Classical in
theorem lawCT_h0 {K : PySem.W.Frag} {s l : Addr} {Tb : List (Addr × Str)} {h : Hp} (z : Addr) (hz : (lawCT K s l Tb h).h0 z ≠ none) : (lawCT K s l Tb h).R.W z := by
  have hz : (if z = s ∨ z = l ∨ ∃ q, (z, q) ∈ Tb then h z else none) ≠ none := hz
  split at hz
  · rename_i hc
    exact hc
  · exact absurd rfl hz
open Classical in
theorem law_srT {K : PySem.W.Frag} {H : Hp} {l s : Addr} {Tb : List (Addr × Str)} {ns : List Int} {σ : L2.St} {δ : List (Option D)} (hl : H l = none) (hs : H s = none) (hne : l ≠ s) (hT : ∀ p ∈ Tb, H p.1 = some (.tbl #[])) (hσ : ∀ (i : Nat) (d : D), δ[i]? = some (some d) → d = .ref s ∧ σ[i]? = some (some (V.ref s))) (hlen : δ.length = σ.length) :
    SR (lawCT K s l Tb (upd (upd H l (.lst (ns.map V.int))) s (.lst [.ref l, .int 0, .int 0, .int 11]))) { δ := δ, b := 0 } σ (fun _ => none) (upd (upd H l (.lst (ns.map V.int))) s (.lst [.ref l, .int 0, .int 0, .int 11])) := by
  have tl : ∀ {t : Addr}, H t = some (.tbl #[]) → t ≠ l := fun h e => by rw [e, hl] at h; cases h
  have ts : ∀ {t : Addr}, H t = some (.tbl #[]) → t ≠ s := fun h e => by rw [e, hs] at h; cases h
  have e1 : upd (upd H l (.lst (ns.map V.int))) s (.lst [.ref l, .int 0, .int 0, .int 11]) s = some (.lst [.ref l, .int 0, .int 0, .int 11]) := upd_same
  have e2 : upd (upd H l (.lst (ns.map V.int))) s (.lst [.ref l, .int 0, .int 0, .int 11]) l = some (.lst (ns.map V.int)) := by rw [upd_ne hne, upd_same]
  have e3 : ∀ {t : Addr}, H t = some (.tbl #[]) → upd (upd H l (.lst (ns.map V.int))) s (.lst [.ref l, .int 0, .int 0, .int 11]) t = some (.tbl #[]) := fun h => by rw [upd_ne (ts h), upd_ne (tl h)]; exact h
  refine ⟨⟨Same.refl _, fun _ _ z => (nomatch z), fun z o _ hz => ?_, fun z hz => ?_, fun _ z _ => z, fun _ _ z => (nomatch z)⟩, ⟨⟨hne.symm, ns, 0, 0, 11, e1, e2, by omega, by simp, by omega, by omega⟩, fun p hp => ?_⟩, fun z hz => ⟨rfl, ?_⟩, fun i d hi => ?_, fun p hp => absurd hp (by simp), List.nodup_nil, hlen, fun _ _ z => (nomatch z)⟩
  · have hz : (if z = s ∨ z = l ∨ ∃ q, (z, q) ∈ Tb then _ else none) = some o := hz
    split at hz
    · exact hz
    · cases hz
  · have hz : (if z = s ∨ z = l ∨ ∃ q, (z, q) ∈ Tb then _ else none) ≠ none := hz
    split at hz
    · exact hz
    · exact absurd rfl hz
  · exact LamX.TabS.nil (e3 (hT p hp))
  · show (if z = s ∨ z = l ∨ ∃ q, (z, q) ∈ Tb then _ else none) ≠ none
    rcases hz with e | e | ⟨q', hq⟩
    · rw [if_pos (.inl e), e, e1]; simp
    · rw [if_pos (.inr (.inl e)), e, e2]; simp
    · rw [if_pos (.inr (.inr ⟨q', hq⟩)), e3 (hT _ hq)]; simp
  · obtain ⟨rfl, h2⟩ := hσ i d hi
    exact ⟨_, h2, .ref s⟩
end DL

set_option Elab.async false
set_option linter.all false
set_option maxRecDepth 100000
set_option maxHeartbeats 4000000
/-! a def that hands lambdas on, the stream no argument; min of two -/
namespace DL
open PySem PySem.Spec PyProof.Rows L2 DX
theorem rc_min2 {K : PySem.W.Frag} {Φ' : D → Prop} {i j : Int} (q : Φ' (.int (if j < i then j else i))) : RC K (fun xs H Q => ∃ i j, xs = [.int i, .int j] ∧ Q (.int (if j < i then j else i)) H) [.int i, .int j] Φ' := fun k h vs e r Q z => by
  cases r with
  | cons r1 r2 => cases r2 with
    | cons r2 r3 =>
      cases r1; cases r2; cases r3
      exact ⟨i, j, rfl, z _ k h _ (Grow.refl e) (.int _) q⟩
def SpTabN (K : PySem.W.Frag) (n : Nat) (Tb : List (Addr × Str)) (Pr : List D → Nat → Prop) (Po : List D → Nat → D → Nat → Prop) : Sp := fun vs H Q _ => vs.length = n ∧ ∃ (s l : Addr) (k : Hp) (as : List D) (b : Nat), RepL K k vs as ∧ Same k H ∧ (strmT s l Tb).I b H ∧ (∀ a, (strmT s l Tb).W a → k a = none ∧ H a ≠ none) ∧
  (∀ a ps, k a ≠ some (.tbl ps)) ∧ Pr as b ∧ ∀ d b', Po as b d b' → ∀ v k' h', Grow (strmT s l Tb).W k (resT s l Tb H) k' h' → (strmT s l Tb).I b' h' → Rep K k' v d → Q v h'
section
variable {P : Program} {w : World} {K : PySem.W.Frag} {mg : Str → Option Value} {base : Heap}
theorem tabN_run {N : List Str} {n : Nat} {Tb : List (Addr × Str)} {Pr : List D → Nat → Prop} {Po : List D → Nat → D → Nat → Prop} {t : TS} {vs : List V} {H : Hp} {Q : VK} {E : XK} (h : SpTabN K n Tb Pr Po vs H Q E)
    (hw : ∀ (s l : Addr) (k0 : Hp) (as : List D) (b : Nat), Pr as b → as.length = n → TabR (tabC K s l Tb k0 H) Tb → SubR (tabC K s l Tb k0 H) (strm s l) →
          WS (tabC K s l Tb k0 H) t { δ := startD N as, b := b } { nx := fun ς => Po as b .non ς.b, rt := fun d ς => Po as b d ς.b }) :
    t { nx := fun _ H' => Q .non H', rt := Q } (L2.start N vs) H := by
  obtain ⟨hl, s, l, k0, as, b, rl, e, hi, hW, hT, hp, hq⟩ := h
  have TR : TabR (tabC K s l Tb k0 H) Tb := strmT_tab rfl rfl hT fun a ps q => by
    have q : (open Classical in if (strmT s l Tb).W a then H a else none) = some (.tbl ps) := q
    split at q
    · assumption
    · cases q
  have S0 : SR (tabC K s l Tb k0 H) { δ := startD N as, b := b } (L2.start N vs) k0 H := by
    refine ⟨⟨Same.refl _, e, fun a o nw q => ?_, fun a q => ?_, fun _ q _ => q, fun _ _ q => q⟩, hi, fun a wa => ⟨(hW a wa).1, ?_⟩, fun i d q => start_rep rl q, fun p hp => absurd hp (by simp), List.nodup_nil, start_len rl.length, fun _ _ z => by cases z⟩
    · have q : (open Classical in if (strmT s l Tb).W a then H a else none) = some o := q
      rw [if_neg nw] at q
      cases q
    · have q : (open Classical in if (strmT s l Tb).W a then H a else none) ≠ none := q
      split at q
      · exact q
      · exact absurd rfl q
    · show (open Classical in if (strmT s l Tb).W a then H a else none) ≠ none
      rw [if_pos wa]
      exact (hW a wa).2
  refine hw s l k0 as b hp (by rw [← rl.length, hl]) TR (strmT_sub rfl rfl) (L2.start N vs) k0 H S0 _ ?_
  exact ⟨fun σ' k' h' ς' S' _ q => hq .non ς'.b q .non k' h' S'.g S'.i .non, fun _ _ _ _ _ _ q => q.elim, fun _ _ _ _ _ _ q => q.elim, fun v σ' k' h' d ς' S' _ r q => hq d ς'.b q v k' h' S'.g S'.i r⟩
end
section
variable {c : Cn} {ς : Sta} {Φ : D → Sta → Prop} {s l : Addr} {E : XK}
/-- such a def called, the caller's lists all known -/
theorem we_callTabN {n j : Nat} {Tb : List (Addr × Str)} {Pr : List D → Nat → Prop} {Po : List D → Nat → D → Nat → Prop} {ta : TA} (V : TabR c Tb) (hR : c.R = strmT s l Tb) (h0 : ∀ a, c.h0 a ≠ none → c.R.W a)
    (h : WL c ta ς fun ds ς1 => ∃ as, ds = as ∧ ds.length = n ∧ ς1.m = [] ∧ Pr as ς1.b ∧ ∀ d b, Po as ς1.b d b → Φ d { ς1 with b := b }) : WE c (tCall (SpTabN c.K n Tb Pr Po) [] E ta) ς Φ := fun σ k hh S Q z =>
  h σ k hh S _ fun vs k1 h1 ds ς1 S1 e1 r1 ⟨as, ed, el, em, p, q⟩ => by
    rw [List.append_nil]
    have i1 := S1.i
    rw [hR] at i1
    have w1 : ∀ a, (strmT s l Tb).W a → c.R.W a := fun a wa => by rw [hR]; exact wa
    have wW : ∀ a, (strmT s l Tb).W a → k1 a = none ∧ h1 a ≠ none := fun a wa => ⟨S1.g.dj a (S1.w a (w1 a wa)).1 (S1.w a (w1 a wa)).2, S1.g.hd a (S1.w a (w1 a wa)).2⟩
    refine ⟨by rw [r1.length, el], s, l, k1, as, ς1.b, by rw [← ed]; exact r1, S1.kh, i1, wW, fun a ps q => V.k0 a ps (S1.g.kt a ps q), p, fun d b' po v k' h' g i r => ?_⟩
    have i' : c.R.I b' h' := by rw [hR]; exact i
    refine z v k' h' d { ς1 with b := b' } ⟨⟨S1.g.kk.trans g.kk, g.kh, fun a o nw q => absurd (h0 a (by rw [q]; simp)) nw, fun a q => ?_, fun a q n => ?_, fun a ps q => S1.g.kt a ps (g.kt a ps q)⟩, i', S1.w, fun i d q => ?_, fun p hp => by
      have hp : p ∈ ς1.m := hp
      rw [em] at hp
      exact absurd hp (by simp), S1.nd, S1.len, S1.kb.trans g.kk⟩ (e1.trans g.kk) r (q d b' po)
    · have wa := h0 a q
      exact V.there _ _ _ i' wa
    · have wa := h0 a n
      have wa' : (strmT s l Tb).W a := by rw [← hR]; exact wa
      refine g.dj a (wW a wa').1 ?_
      show (open Classical in if (strmT s l Tb).W a then h1 a else none) ≠ none
      rw [if_pos wa']
      exact (wW a wa').2
    · obtain ⟨v, a, r⟩ := S1.s i d q
      exact ⟨v, a, r.mono g.kk⟩
end
end DL

set_option Elab.async false
set_option linter.all false
set_option maxRecDepth 100000
set_option maxHeartbeats 4000000
/-! two like things compared: ints, texts, None, truths, tuples and lists of such, empty dicts -/
namespace DL
open PySem PySem.Spec PyProof.Rows L2 DX
open PySem.W (EqTree)
open PySem.SeqAt (EqAt)
mutual
inductive TwT (K : PySem.W.Frag) (H : Hp) : Nat → V → V → Prop
  | non {n : Nat} : TwT K H n .non .non
  | bl {n : Nat} (b : Bool) : TwT K H n (.bl b) (.bl b)
  | int {n : Nat} (i : Int) : TwT K H n (.int i) (.int i)
  | str {n : Nat} (x : Str) : TwT K H n (.str x) (.str x)
  | lst {n : Nat} {a b : Addr} {xs ys : List V} : SqL K H a xs → SqL K H b ys → TwA K H n xs ys → TwT K H (n + 1) (.ref a) (.ref b)
  | tup {n : Nat} {a b : Addr} {xs ys : List V} : SqT K H a xs → SqT K H b ys → TwA K H n xs ys → TwT K H (n + 1) (.ref a) (.ref b)
  | dct {n : Nat} {a b : Addr} : H a = some (.dK []) → H b = some (.dK []) → TwT K H (n + 1) (.ref a) (.ref b)
inductive TwA (K : PySem.W.Frag) (H : Hp) : Nat → List V → List V → Prop
  | nil {n : Nat} : TwA K H n [] []
  | cons {n : Nat} {x y : V} {xs ys : List V} : TwT K H n x y → TwA K H n xs ys → TwA K H n (x :: xs) (y :: ys)
end
theorem TwA.len {K : PySem.W.Frag} {H : Hp} {n : Nat} : ∀ {xs ys : List V}, TwA K H n xs ys → xs.length = ys.length
  | _, _, .nil => rfl
  | _, _, .cons _ r => by rw [List.length_cons, List.length_cons, TwA.len r]
theorem all_rng (n : Nat) : ((List.range n).all fun _ => true) = true := by simp
theorem dk_empty {P : Program} {w : World} {H : Hp} {s : Heap} {a : Addr} (ok : ObjOk P w H s a (.dK [])) : (a == sysModules) = false ∧ ∀ (p : Program) (v : World), s.DictOf (intKind p v) a [] := by
  obtain ⟨_, ya, va, ra, da⟩ := ok
  have e : va = [] := by cases ra; rfl
  subst e
  obtain ⟨o, es, ep, h1, h2, h3, _, h5, _⟩ := da
  have ee : es.toList = [] := by
    generalize es.toList = l at h5
    cases h5
    rfl
  refine ⟨ya, fun p v => ⟨o, es, ep, h1, h2, h3, fun e he => ?_, ?_, List.nodup_nil⟩⟩
  · have he : e ∈ es.toList := Array.mem_toList_iff.mpr he
    rw [ee] at he
    exact absurd he (by simp)
  · rw [ee]
    exact .nil
section
variable {X : Cx} {pins : List (Addr × Obj)} {σ : L2.St} {H : Hp} {s : Shared}
mutual
theorem TwT.tree (I : Inv X pins σ H s) : ∀ {n : Nat} {x y : V} {u v : Value}, TwT X.K H n x y → RelV x u → RelV y v → ∀ (p : Program) (w : World), EqTree p w s n u v true
  | _, _, _, _, _, .non, r1, r2, p, w => by
    cases r1; cases r2
    exact .same
  | _, _, _, _, _, .bl b, r1, r2, p, w => by
    cases r1; cases r2
    exact .same
  | _, _, _, _, _, .int i, r1, r2, p, w => by
    obtain ⟨t, rfl⟩ := r1
    obtain ⟨t2, rfl⟩ := r2
    exact .leaf fun A _ => by simpa using SeqAt.EqAt.int_int (A := A) (s := s) i t i t2
  | _, _, _, _, _, .str x, r1, r2, p, w => by
    obtain ⟨t, rfl⟩ := r1
    obtain ⟨t2, rfl⟩ := r2
    exact .leaf fun A _ => by simpa using SeqAt.EqAt.str_str (A := A) (s := s) x t x t2
  | _, _, _, _, _, .lst (a := a) (b := b) h1 h2 ha, r1, r2, p, w => by
    cases r1; cases r2
    obtain ⟨its, rv, pl, _⟩ := I.list h1
    obtain ⟨its2, rv2, pl2, _⟩ := I.list h2
    by_cases e : a = b
    · subst e; exact .same
    have hs : its.toArray.size = its2.toArray.size := by
      rw [List.size_toArray, List.size_toArray, ← rv.length, ← rv2.length]
      exact ha.len
    have t := EqTree.lists (prog := p) (w := w) (e := fun _ => true) e (PlainL.isList pl) (PlainL.isList pl2) hs fun j q1 q2 => by
      have z := TwA.trees I ha rv rv2 p w j (by simpa using q1) (by simpa using q2)
      simpa using z
    rw [all_rng] at t
    exact t
  | _, _, _, _, _, .tup (a := a) (b := b) h1 h2 ha, r1, r2, p, w => by
    cases r1; cases r2
    obtain ⟨its, rv, pl, _⟩ := I.tuple h1
    obtain ⟨its2, rv2, pl2, _⟩ := I.tuple h2
    by_cases e : a = b
    · subst e; exact .same
    have hs : its.toArray.size = its2.toArray.size := by
      rw [List.size_toArray, List.size_toArray, ← rv.length, ← rv2.length]
      exact ha.len
    have t := EqTree.tuples (prog := p) (w := w) (e := fun _ => true) e pl pl2 fun j q1 q2 => by
      have z := TwA.trees I ha rv rv2 p w j (by simpa using q1) (by simpa using q2)
      simpa using z
    rw [all_rng, hs] at t
    simpa using t
  | _, _, _, _, _, .dct (a := a) (b := b) h1 h2, r1, r2, p, w => by
    cases r1; cases r2
    by_cases e : a = b
    · subst e; exact .same
    obtain ⟨y1, d1⟩ := dk_empty (I.hok a _ h1)
    obtain ⟨y2, d2⟩ := dk_empty (I.hok b _ h2)
    exact EqTree.dicts (prog := p) (w := w) (e := fun _ => true) e y1 y2 (d1 p w) (d2 p w) (fun k v y hm _ => absurd hm (by simp))
theorem TwA.trees (I : Inv X pins σ H s) : ∀ {n : Nat} {xs ys : List V} {us vs : List Value}, TwA X.K H n xs ys → Vals xs us → Vals ys vs → ∀ (p : Program) (w : World) (j : Nat) (h1 : j < us.length) (h2 : j < vs.length), EqTree p w s n us[j] vs[j] true
  | _, _, _, _, _, .nil, r1, r2, p, w, j, h1, h2 => by
    cases r1
    exact absurd h1 (by simp)
  | _, _, _, _, _, .cons t ts, r1, r2, p, w, j, h1, h2 => by
    cases r1 with
    | cons a1 b1 => cases r2 with
      | cons a2 b2 =>
        cases j with
        | zero => exact TwT.tree I t a1 a2 p w
        | succ j => exact TwA.trees I ts b1 b2 p w j (by simpa using h1) (by simpa using h2)
end
def rNeTw (K : PySem.W.Frag) : R2 := fun x y H Q => ∃ (a b : Addr) (xs ys : List V), x = .ref a ∧ y = .ref b ∧ SqL K H a xs ∧ SqL K H b ys ∧ TwA K H 8 xs ys ∧ Q (.bl false) H
theorem op_neTw (hu : X.A.units + 64 < cLine) : OpR X (compareOp .NotEq) (rNeTw X.K) := by
  intro pins s σ H x y v u Q I rx ry h
  obtain ⟨a, b, xs, ys, rfl, rfl, h1, h2, ha, q⟩ := h
  obtain rfl : v = Value.ref a := rx
  obtain rfl : u = Value.ref b := ry
  obtain ⟨its, rv, pl, _⟩ := I.list h1
  obtain ⟨its2, rv2, pl2, _⟩ := I.list h2
  have hs : its.toArray.size = its2.toArray.size := by
    rw [List.size_toArray, List.size_toArray, ← rv.length, ← rv2.length]
    exact ha.len
  have t := SeqAt.RcNeAt.lists (A := X.A) (e := fun _ => true) (PlainL.isList pl) (PlainL.isList pl2) hs (by omega) fun j q1 q2 => fun p w E Q hq => by
    have z := (TwA.trees I ha rv rv2 p w j (by simpa using q1) (by simpa using q2)).at X.A.in1 (by show X.A.units + 1 + 8 < cLine; omega)
    exact (by simpa using z : SeqAt.EqIn p w X.A.in1 s its.toArray[j] its2.toArray[j] true) E Q hq
  rw [all_rng] at t
  exact t X.prog X.w _ _ ⟨.bl _, H, I, rfl, q⟩
end
/-- data that such a comparison tells alike -/
def twD : Nat → D → Bool
  | _, .non => true
  | _, .bl _ => true
  | _, .int _ => true
  | _, .str _ => true
  | n + 1, .lst l => l.all (twD n)
  | n + 1, .tup l => l.all (twD n)
  | _ + 1, .dct [] [] => true
  | _, _ => false
theorem TwA.ofT {K : PySem.W.Frag} {k h : Hp} {n : Nat} (ih : ∀ {d : D} {x y : V}, Rep K k x d → Rep K k y d → twD n d = true → TwT K h n x y) : ∀ {l : List D} {xs ys : List V}, RepL K k xs l → RepL K k ys l → l.all (twD n) = true → TwA K h n xs ys
  | _, _, _, .nil, .nil, _ => .nil
  | _, _, _, .cons r1 q1, .cons r2 q2, hl => by
    rw [List.all_cons] at hl
    obtain ⟨h1, h2⟩ := Bool.and_eq_true_iff.mp hl
    exact .cons (ih r1 r2 h1) (TwA.ofT ih q1 q2 h2)
theorem TwT.of {K : PySem.W.Frag} {k h : Hp} (e : Same k h) : ∀ (n : Nat) {d : D} {x y : V}, Rep K k x d → Rep K k y d → twD n d = true → TwT K h n x y := by
  intro n
  induction n with
  | zero =>
    intro d x y r1 r2 hd
    cases d with
    | non => cases r1; cases r2; exact .non
    | bl b => cases r1; cases r2; exact .bl b
    | int i => cases r1; cases r2; exact .int i
    | str z => cases r1; cases r2; exact .str z
    | dct ks ds => cases ks <;> cases ds <;> cases hd
    | _ => cases hd
  | succ n ih =>
    intro d x y r1 r2 hd
    cases d with
    | non => cases r1; cases r2; exact .non
    | bl b => cases r1; cases r2; exact .bl b
    | int i => cases r1; cases r2; exact .int i
    | str z => cases r1; cases r2; exact .str z
    | lst l =>
      cases r1 with
      | lst h1 q1 => cases r2 with
        | lst h2 q2 => exact .lst (SqL.of (e _ _ h1)) (SqL.of (e _ _ h2)) (TwA.ofT (fun a b c => ih a b c) q1 q2 hd)
    | tup l =>
      cases r1 with
      | tup h1 q1 => cases r2 with
        | tup h2 q2 => exact .tup (Same.sqt e h1) (Same.sqt e h2) (TwA.ofT (fun a b c => ih a b c) q1 q2 hd)
    | dct ks ds =>
      cases ks with
      | cons _ _ => cases hd
      | nil => cases ds with
        | cons _ _ => cases hd
        | nil =>
          cases r1 with
          | dct h1 m1 _ => cases r2 with
            | dct h2 m2 _ =>
              cases List.map_eq_nil_iff.mp m1
              cases List.map_eq_nil_iff.mp m2
              exact .dct (e _ _ h1) (e _ _ h2)
    | _ => cases hd
theorem rd_neTw {K : PySem.W.Frag} {Φ : D → Prop} {l : List D} (hl : l.all (twD 8) = true) (q : Φ (.bl false)) : RD K (rNeTw K) (.lst l) (.lst l) Φ := fun k h v1 v2 e r1 r2 Q z => by
  cases r1 with
  | lst h1 q1 => cases r2 with
    | lst h2 q2 => exact ⟨_, _, _, _, rfl, rfl, SqL.of (e _ _ h1), SqL.of (e _ _ h2), TwA.ofT (fun a b c => TwT.of e 8 a b c) q1 q2 hl, z _ k h _ (Grow.refl e) (.bl _) q⟩
end DL
namespace DK
open PySem PySem.Spec PyProof.Rows L2 DL
theorem op_neTw {X : Cx} {K : PySem.W.Frag} (hu : X.A.units + 64 < cLine) (h : X.K = K := by rfl) : OpR X (compareOp .NotEq) (rNeTw K) := by subst h; exact DL.op_neTw hu
end DK

set_option Elab.async false
set_option linter.all false
set_option maxRecDepth 100000
set_option maxHeartbeats 4000000
/-! what the top has written, by one look: defs, own exceptions, tables -/
namespace DY
open PySem PySem.Spec PyProof.Rows L2 He
/-- the own exception's class object -/
def clsB (K : PySem.W.Frag) (C : Addr) : Bool := match K.lookup C with
  | some ⟨.type "type", _, .cls cd, sl⟩ => (match cd.mro, sl.toList with
    | .ref C' :: bm, [_, _, _, _, some (.builtin n), _] => C' == C && n == "ValueError.__new__" && !cd.hasDel && cd.hasDict && PySem.HandSPX.refsVE bm
    | _, _ => false)
  | _ => false
theorem clsB_ok {K : PySem.W.Frag} {C : Addr} (q : clsB K C = true) : ∃ nm q N bs bm sn sub ab col dd k0 k1 k2 k3 k5, K.lookup C = some (excClassObj nm q C N bs bm true sn sub ab col dd k0 k1 k2 k3 k5 "ValueError.__new__") ∧ PySem.HandSPX.refsVE bm = true := by
  unfold clsB at q
  split at q
  · rename_i dd cd sl ho
    split at q
    · rename_i C' bm k0 k1 k2 k3 n k5 hm hs
      simp only [Bool.and_eq_true, beq_iff_eq, Bool.not_eq_true'] at q
      obtain ⟨⟨⟨⟨rfl, rfl⟩, hdel⟩, hd'⟩, ht⟩ := q
      obtain ⟨nm, bs, mro, ns, qn, hd, sn, sub, ab, col, del⟩ := cd
      dsimp only at hm hdel hd'
      subst hm hdel hd'
      have hsl : sl = #[k0, k1, k2, k3, some (.builtin "ValueError.__new__"), k5] := by
        obtain ⟨l⟩ := sl
        simp only at hs
        rw [hs]
      subst hsl
      exact ⟨nm, qn, ns, bs, bm, sn, sub, ab, col, dd, k0, k1, k2, k3, k5, ho, ht⟩
    · cases q
  · cases q
/-- its __init__ -/
abbrev ini (K : PySem.W.Frag) (x : Str) : Addr := ma K (ga K x) "__init__"
abbrev ExV : Type := Option (Str × Str × Arguments × FuncBody × Scope)
def exF (K : PySem.W.Frag) (x : Str) : ExV := match K.lookup (ini K x) with
  | some ⟨_, _, .func fd, _⟩ => some (fd.name, fd.qualname, fd.params, fd.body, fd.scope)
  | _ => none
def fnB (K : PySem.W.Frag) (file : Str) (x q : Str) : Bool := match K.lookup (ini K x) with
  | some ⟨_, _, .func ⟨_, _, _, _, _, g, clo, .none, .none, _, _, _, .ref cda, _, b⟩, _⟩ => g == mainGlobals && b == builtinsNs && PySem.W.codeIn K (.ref cda) q &&
    (match clo with
      | [(y, cc)] => y == "__class__" && (match K.lookup cc with
        | some ⟨_, _, .cell (some (.ref C)), _⟩ => C == ga K x
        | _ => false)
      | _ => false) &&
    (match K.lookup cda with
      | some ⟨_, _, .fields vs, _⟩ => (match (vs[2]? : Option Value) with
        | some (.str f _) => file == f
        | _ => false)
      | _ => false)
  | _ => false
/-- one own exception: its name, its fields, its __init__ -/
structure XD where
  x : Str
  fs : List Str
  qual : Str
  params : Arguments
  body : List Stmt
  scope : Scope
def XD.val (d : XD) : ExV := some ("__init__", d.qual, d.params, .stmts d.body, d.scope)
def XD.ok (K : PySem.W.Frag) (file : Str) (d : XD) : Bool :=
  (Fa.glo d.x).ok K && clsB K (ga K d.x) && eqO (PySem.W.findIn K (.ref (ga K d.x)) "__setattr__") (some (some (.builtin "object.__setattr__"))) && xfB K (ga K d.x) &&
  d.fs.all (fun f => eqO (PySem.W.findIn K (.ref (ga K d.x)) f) (some none)) && eqO (PySem.W.findIn K (.ref (ga K d.x)) "__init__") (some (some (.ref (ini K d.x)))) &&
  decide (PySem.W.typeIn K (.ref (ini K d.x)) = some (.type "function")) && PySem.W.keepIn K (.ref (ga K d.x)) && decide (PySem.W.typeIn K (.ref (ga K d.x)) = some (.type "type")) &&
  decide (PySem.W.subIn K (.ref (ga K d.x)) (.type "ValueError") = some true) && decide (PySem.W.exmOne K (.ref (ga K d.x)) (.ref (ga K d.x)) = some true) &&
  eqO (PySem.W.ks_superIn K (ga K d.x) (ga K d.x) "__init__") (some (some (.builtin "ValueError.__init__"))) && decide (PySem.W.mroIn K (ga K d.x) (.ref (ga K d.x)) = some true) &&
  fnB K file d.x d.qual
/-- what the words of such an __init__ say: by looks at its text -/
structure XShape (d : XD) : Prop where
  sh : DX.Shape d.params d.body d.scope d.fs
  bd : ∀ (doc pm : Value) (an : Option Addr) (cdv ct : Value) (cc : Addr) (us : List Value), us.length = d.fs.length + 1 → bindArgs (PySem.W.ksFn "__init__" d.qual d.params d.body d.scope .none .none doc pm an cdv ct cc) ⟨us, []⟩ = pure ((("self" : Str) :: d.fs).zip us)
theorem XD.txt {P : Program} {K : PySem.W.Frag} {mg : Str → Option Value} {h : Heap} {d : XD} (X : K.In h) (G : h.Ns mainGlobals mg) (e : exF K d.x = d.val) (c : d.ok K P.main.file = true) (S : XShape d) (hs : PySem.W.nsIn K mainGlobals "super" = some none) (ha : PySem.W.nsIn K cStatics "thirdparty.any" = some none)
    (ht : (P.main.scope.names.lookup ("super" : Str)).isSome = false) : DX.Txt P K mg d.x (ga K d.x) (ini K d.x) d.fs := by
  unfold XD.ok at c
  simp only [Bool.and_eq_true, List.all_eq_true, decide_eq_true_eq] at c
  obtain ⟨⟨⟨⟨⟨⟨⟨⟨⟨⟨⟨⟨⟨c1, c2⟩, c3⟩, c4⟩, c5⟩, c6⟩, c7⟩, c8⟩, c9⟩, c10⟩, c11⟩, c12⟩, c13⟩, c14⟩ := c
  refine { gC := glo_ok X G c1, cls := clsB_ok c2, sa := eqO_ok c3, xf := xfB_ok c4, noN := fun f hf => eqO_ok (c5 f hf), iC := eqO_ok c6, tC := c7, kC := c8, tyC := c9, veC := c10, te := c11, sup := eqO_ok c12, hsub := c13, hsuper := hs, any := ha, top := ht, fn := ?_ }
  unfold fnB at c14
  unfold exF at e
  split at c14
  · rename_i oc od n1 n2 n3 n4 n5 g clo doc pm an cda ct b osl lk
    rw [lk] at e
    have e2 : (some (n1, n2, n3, n4, n5) : ExV) = (some (("__init__" : Str), d.qual, d.params, FuncBody.stmts d.body, d.scope) : ExV) := e
    simp only [Option.some.injEq, Prod.mk.injEq] at e2
    obtain ⟨h1, h2, h3, h4, h5⟩ := e2
    subst h1 h2 h3 h4 h5
    simp only [Bool.and_eq_true, beq_iff_eq] at c14
    obtain ⟨⟨⟨⟨rfl, rfl⟩, z3⟩, z4⟩, z5⟩ := c14
    split at z4
    · rename_i y cc
      simp only [Bool.and_eq_true, beq_iff_eq] at z4
      obtain ⟨rfl, z4⟩ := z4
      split at z4
      · rename_i cl cld C csl lc
        have z4 := beq_iff_eq.mp z4
        subst z4
        split at z5
        · rename_i ccl cdd vs ccs lv
          split at z5
          · rename_i f tf hv
            exact ⟨oc, ccl, cl, doc, pm, ct, od, an, cdd, cld, osl, ccs, csl, cda, cc, d.qual, d.params, d.body, d.scope, vs, f, tf, lk, z3, S.sh, fun s us hl => .of_eq (S.bd doc pm an (.ref cda) ct cc us hl), lv, hv, z5, lc⟩
          · cases z5
        · cases z5
      · cases z4
    · cases z4
  · cases c14
/-! ### the Hook -/
def asY (g : Addr → Option Obj) (n : Nat) : List Addr := asD g n ++ [cStatics]
abbrev AlY : Type := (AlT × List ExV) × Bool
def moreY (file : Str) (xs : List XD) (ex : PySem.W.Frag → Bool) (g : Addr → Option Obj) (tf : List Defn) (K : PySem.W.Frag) : Bool :=
  ex K && xs.all (fun d => d.ok K file) && eqO (PySem.W.nsIn K mainGlobals "super") (some none) && eqO (PySem.W.nsIn K cStatics "thirdparty.any") (some none) && tabsB g tf K
def obsK (file : Str) (fa : List Fa) (fn : List DefD) (ts : List Tab) (xs : List XD) (ex : PySem.W.Frag → Bool) (tf : List Defn) (g : Addr → Option Obj) (K : PySem.W.Frag) : AlY := ((obsT fa fn ts K, xs.map fun d => exF K d.x), moreY file xs ex g tf K)
def obsY (n : Nat) (file : Str) (fa : List Fa) (fn : List DefD) (ts : List Tab) (xs : List XD) (ex : PySem.W.Frag → Bool) (tf : List Defn) (g : Addr → Option Obj) : AlY := obsK file fa fn ts xs ex tf g (frT g (asY g n))
def valY (fn : List DefD) (ts : List Tab) (xs : List XD) (w : World) : AlY := ((valT fn ts w, xs.map XD.val), true)
structure SaysY (file : Str) (fa : List Fa) (fn : List DefD) (ts : List Tab) (xs : List XD) (ex : PySem.W.Frag → Bool) (tf : List Defn) (w : World) (h : Heap) (K : PySem.W.Frag) : Prop where
  t : SaysT fa fn ts w K
  x : ∀ d ∈ xs, exF K d.x = d.val
  ok : ∀ d ∈ xs, d.ok K file = true
  more : ex K = true
  sup : PySem.W.nsIn K mainGlobals "super" = some none
  any : PySem.W.nsIn K cStatics "thirdparty.any" = some none
  hd : ∀ p ∈ tf, PySem.W.codeHdIn K (cT K p).1 (cT K p).2 = true
  out : ∀ p ∈ tf, K.lookup (cT K p).2 = none
  empty : ∀ p ∈ tf, h.get? (cT K p).2 = some { cls := .none, data := .fields #[] }
theorem map_all {α β : Type} {f g : α → β} : ∀ {l : List α}, l.map f = l.map g → ∀ d ∈ l, f d = g d
  | [], _, _, h => nomatch h
  | a :: l, e, d, h => by
    injection e with e1 e2
    rcases List.mem_cons.mp h with rfl | h
    · exact e1
    · exact map_all e2 d h
theorem saysY_of {n : Nat} {file : Str} {fa : List Fa} {fn : List DefD} {ts : List Tab} {xs : List XD} {ex : PySem.W.Frag → Bool} {tf : List Defn} {w : World} {h : Heap} (e : obsY n file fa fn ts xs ex tf h.get? = valY fn ts xs w) : SaysY file fa fn ts xs ex tf w h (frT h.get? (asY h.get? n)) := by
  have e1 : obsT fa fn ts (frT h.get? (asY h.get? n)) = valT fn ts w := congrArg (fun z : AlY => z.1.1) e
  have e2 : (xs.map fun d => exF (frT h.get? (asY h.get? n)) d.x) = xs.map XD.val := congrArg (fun z : AlY => z.1.2) e
  have e3 : moreY file xs ex h.get? tf (frT h.get? (asY h.get? n)) = true := congrArg (fun z : AlY => z.2) e
  unfold moreY at e3
  obtain ⟨e3, e4⟩ := ba e3
  obtain ⟨e3, e5⟩ := ba e3
  obtain ⟨e3, e6⟩ := ba e3
  obtain ⟨e7, e3⟩ := ba e3
  have key : ∀ p ∈ tf, PySem.W.codeHdIn (frT h.get? (asY h.get? n)) (cT (frT h.get? (asY h.get? n)) p).1 (cT (frT h.get? (asY h.get? n)) p).2 = true ∧ ∃ o, h.get? (cT (frT h.get? (asY h.get? n)) p).2 = some o ∧ emptyTab o = true := fun p hp => by
    obtain ⟨h3, h4⟩ := ba (List.all_eq_true.mp e4 p hp)
    refine ⟨h3, ?_⟩
    cases q : h.get? (cT (frT h.get? (asY h.get? n)) p).2 with
    | none =>
      rw [q] at h4
      cases h4
    | some o =>
      rw [q] at h4
      exact ⟨o, rfl, h4⟩
  exact ⟨e1, map_all e2, fun d hd => List.all_eq_true.mp e3 d hd, e7, eqO_ok e6, eqO_ok e5, fun p hp => (key p hp).1, fun p hp => by
    obtain ⟨_, o, q, z⟩ := key p hp
    exact frT_none q z, fun p hp => by
    obtain ⟨_, o, q, z⟩ := key p hp
    rw [q, emptyTab_eq z]⟩
def hookY (n : Nat) (file : Str) (fa : List Fa) (fn : List DefD) (ts : List Tab) (xs : List XD) (ex : PySem.W.Frag → Bool) (tf : List Defn) : PySem.W.Hook where
  α := AlY
  obs := fun s => obsY n file fa fn ts xs ex tf s.heap.get?
  val := fun w => valY fn ts xs w
  says := fun w h => ∃ K : PySem.W.Frag, K.In h ∧ SaysY file fa fn ts xs ex tf w h K
  of := fun _ _ e => ⟨_, frT_in, saysY_of e⟩
  keeps := fun _ _ _ ⟨K, hK, c⟩ k => ⟨K, PySem.W.Frag.In.keeps hK k, ⟨c.t, c.x, c.ok, c.more, c.sup, c.any, c.hd, c.out, fun p hp => k _ _ (c.empty p hp)⟩⟩
theorem obsY_eq {n : Nat} {file : Str} {fa : List Fa} {fn : List DefD} {ts : List Tab} {xs : List XD} {ex : PySem.W.Frag → Bool} {tf : List Defn} {g : Addr → Option Obj} {s : Shared} (h : ∀ a, g a = s.heap.get? a) : obsY n file fa fn ts xs ex tf g = (hookY n file fa fn ts xs ex tf).obs s := by
  have e : g = s.heap.get? := funext h
  rw [e] <;> rfl
/-- a def without defaults -/
theorem fun_of {K : PySem.W.Frag} {x qual : Str} {st : Stmt} {f : Addr} {fd : FuncData} (F : FunD K x qual (defArgs st) (defBody st) (defScope st) [] [] f fd) : Fun K x qual st f fd := by
  obtain ⟨oc, od, dV, kV, doc, pm, an, cdv, ct, osl, e, lk, hcd, hD, hK⟩ := F.ex
  rcases hD with ⟨_, rfl⟩ | ⟨e, _⟩
  · exact ⟨⟨oc, od, kV, doc, pm, an, cdv, ct, osl, e, lk, hcd⟩, F.kp⟩
  · exact absurd rfl e
/-- a module's def, told by its name -/
theorem fun_at {K : PySem.W.Frag} {h : Heap} {mg : Str → Option Value} {file : Str} {fa : List Fa} {fn : List DefD} {ts : List Tab} {xs : List XD} {ex : PySem.W.Frag → Bool} {tf : List Defn} {w : World} (X : K.In h) (G : h.Ns mainGlobals mg) (c : SaysY file fa fn ts xs ex tf w h K) (x : Str) (st : Stmt) (ps : List Str)
    (hd : (⟨(x, none), x, x, defArgs st, defBody st, defScope st, [], []⟩ : DefD) ∈ fn) (hx : Fa.glo x ∈ fa)
    (hb : ∀ (kV doc pm : Value) (an : Option Addr) (cdv ct : Value) (us : List Value), us.length = ps.length → bindArgs (PySem.W.fnOf x x (defArgs st) (defBody st) (defScope st) .none kV doc pm an cdv ct) ⟨us, []⟩ = pure (ps.zip us)) :
    ∃ (a : Addr) (fd : FuncData), Fun K x x st a fd ∧ mg x = some (.ref a) ∧ Binds K fd ps [] := by
  obtain ⟨fd, F⟩ := SaysD.defs c.t.d hd
  have F2 := fun_of F
  exact ⟨_, fd, F2, glo_ok X G (SaysD.facts c.t.d hx), F2.binds hb⟩
theorem free_at {K : PySem.W.Frag} {h : Heap} {mg : Str → Option Value} {file : Str} {fa : List Fa} {fn : List DefD} {ts : List Tab} {xs : List XD} {ex : PySem.W.Frag → Bool} {tf : List Defn} {w : World} (X : K.In h) (G : h.Ns mainGlobals mg) (c : SaysY file fa fn ts xs ex tf w h K) {x : Str} (hx : Fa.free x ∈ fa) : mg x = none := free_ok X G (SaysD.facts c.t.d hx)
theorem int_at {K : PySem.W.Frag} {h : Heap} {mg : Str → Option Value} {file : Str} {fa : List Fa} {fn : List DefD} {ts : List Tab} {xs : List XD} {ex : PySem.W.Frag → Bool} {tf : List Defn} {w : World} (X : K.In h) (G : h.Ns mainGlobals mg) (c : SaysY file fa fn ts xs ex tf w h K) {x : Str} {i : Int} (hx : Fa.int x i ∈ fa) : ∃ u, mg x = some u ∧ RelV (.int i) u := by
  obtain ⟨t, e⟩ := int_ok X G (SaysD.facts c.t.d hx)
  exact ⟨_, e, t, rfl⟩
theorem str_at {K : PySem.W.Frag} {h : Heap} {mg : Str → Option Value} {file : Str} {fa : List Fa} {fn : List DefD} {ts : List Tab} {xs : List XD} {ex : PySem.W.Frag → Bool} {tf : List Defn} {w : World} (X : K.In h) (G : h.Ns mainGlobals mg) (c : SaysY file fa fn ts xs ex tf w h K) {x z : Str} (hx : Fa.str x z ∈ fa) : ∃ u, mg x = some u ∧ RelV (.str z) u := by
  obtain ⟨t, e⟩ := str_ok X G (SaysD.facts c.t.d hx)
  exact ⟨_, e, t, rfl⟩
/-- the law's code object -/
theorem code_at {K : PySem.W.Frag} {h : Heap} {mg : Str → Option Value} {file : Str} {fa : List Fa} {fn : List DefD} {ts : List Tab} {xs : List XD} {ex : PySem.W.Frag → Bool} {tf : List Defn} {w : World} (X : K.In h) (G : h.Ns mainGlobals mg) (c : SaysY file fa fn ts xs ex tf w h K) {x : Str} (hx : Fa.glo x ∈ fa) {a : Addr} {oc : Value} {od : Option Addr} {fd : FuncData} {osl : Array (Option Value)} {cc : Addr}
    (hm : mg x = some (.ref a)) (lk : K.lookup a = some ⟨oc, od, .func fd, osl⟩) (e : fd.code = .ref cc) : cc = codeOf K (x, none) := by
  have e1 := hm.symm.trans (glo_ok X G (SaysD.facts c.t.d hx))
  cases e1
  exact (codeOf_eq (p := (x, none)) lk e).symm
/-! ### own classes -/
def kinds : List String := ["NoneType", "bool", "int", "str", "list", "tuple", "dict"]
theorem kinds_all {p : String → Bool} (h : kinds.all p = true) {s : String} (k : DL.Knd s) : p s = true := by
  refine List.all_eq_true.mp h s ?_
  rcases k with rfl | rfl | rfl | rfl | rfl | rfl | rfl <;> simp [kinds]
def ckB (K : PySem.W.Frag) (x : Str) : Bool :=
  (Fa.cls x).ok K && eqO (PySem.W.findIn K (.ref (ga K x)) "__class__") (some (some (.builtin "object.__class__"))) && eqO (PySem.W.specialIn K (.builtin "object.__class__") "__get__") (some (some (.builtin "getset_descriptor.__get__"))) &&
  decide (PySem.W.takesIn K (.builtin "object.__class__") = some true) && decide (PySem.W.mroIn K (ga K x) (.type "object") = some true) && decide (PySem.W.kitOne K (.ref (ga K x)) (.ref (ga K x)) = some true) &&
  kinds.all (fun s => decide (PySem.W.kitOne K (.type s) (.ref (ga K x)) = some false)) && kinds.all (fun s => PySem.W.notFirst K (ga K x) (.type s)) && PySem.W.selfFirst K (ga K x)
theorem ckB_ok {K : PySem.W.Frag} {x : Str} (h : ckB K x = true) : DL.CK K (ga K x) := by
  unfold ckB at h
  obtain ⟨h, h9⟩ := ba h
  obtain ⟨h, h8⟩ := ba h
  obtain ⟨h, h7⟩ := ba h
  obtain ⟨h, h6⟩ := ba h
  obtain ⟨h, h5⟩ := ba h
  obtain ⟨h, h4⟩ := ba h
  obtain ⟨h, h3⟩ := ba h
  obtain ⟨h1, h2⟩ := ba h
  exact ⟨⟨cls_ok h1, eqO_ok h2, eqO_ok h3, of_decide_eq_true h4, of_decide_eq_true h5, of_decide_eq_true h6⟩, fun s k => of_decide_eq_true (kinds_all h7 k), fun s k => kinds_all h8 k, h9⟩
def neB (K : PySem.W.Frag) (C : Addr) : Bool := match K.lookup C with
  | some ⟨.type "type", _, .cls cd, sl⟩ => (match cd.mro, sl.toList with
    | [.ref C', .type "object"], [_, _, _, _, some (.builtin _), _] => C' == C && !cd.hasDel && cd.hasDict && PySem.W.nsOkIn K cd.ns && eqO (PySem.W.nsIn K cd.ns "__ne__") (some none) &&
      (match PySem.W.nsIn K cd.ns "__eq__" with
        | some (some (.ref f)) => eqO (PySem.W.findIn K (.ref C) "__eq__") (some (some (.ref f))) && (match K.lookup f with
          | some ⟨.type "function", _, _, _⟩ => true
          | _ => false)
        | _ => false)
    | _, _ => false)
  | _ => false
theorem neB_ok {K : PySem.W.Frag} {C : Addr} (q : neB K C = true) : DL.NeC K C := by
  unfold neB at q
  split at q
  · rename_i dd cd sl ho
    split at q
    · rename_i C' k0 k1 k2 k3 n k5 hm hs
      obtain ⟨q, q6⟩ := ba q
      obtain ⟨q, q5⟩ := ba q
      obtain ⟨q, q4⟩ := ba q
      obtain ⟨q, q3⟩ := ba q
      obtain ⟨q1, q2⟩ := ba q
      have q1 := beq_iff_eq.mp q1
      subst q1
      obtain ⟨nm, bs, mro, ns, qn, hd, sn, sub, ab, col, del⟩ := cd
      dsimp only at hm q2 q3 q4 q5 q6
      have q2 : del = false := by simpa using q2
      subst hm q2 q3
      have hsl : sl = #[k0, k1, k2, k3, some (.builtin n), k5] := by
        obtain ⟨l⟩ := sl
        simp only at hs
        rw [hs]
      subst hsl
      split at q6
      · rename_i f e1
        obtain ⟨q6, q7⟩ := ba q6
        split at q7
        · rename_i od dt sl' lf
          exact ⟨nm, qn, ns, bs, sn, sub, ab, col, dd, k0, k1, k2, k3, k5, n, ho, q4, eqO_ok q5, f, e1, eqO_ok q6, _, lf, rfl⟩
        · cases q7
      · cases q6
    · cases q
  · cases q
section
variable {K : PySem.W.Frag} {h : Heap} {mg : Str → Option Value} {file : Str} {fa : List Fa} {fn : List DefD} {ts : List Tab} {xs : List XD} {ex : PySem.W.Frag → Bool} {tf : List Defn} {w : World}
/-- a method, told by its class and name -/
theorem meth_at (c : SaysY file fa fn ts xs ex tf w h K) (C m q : Str) (st : Stmt) (ps : List Str) (hd : (⟨(C, some m), m, q, defArgs st, defBody st, defScope st, [], []⟩ : DefD) ∈ fn) (hm : Fa.meth C m ∈ fa) (hc : Fa.cls C ∈ fa)
    (hb : ∀ (kV doc pm : Value) (an : Option Addr) (cdv ct : Value) (us : List Value), us.length = ps.length → bindArgs (PySem.W.fnOf m q (defArgs st) (defBody st) (defScope st) .none kV doc pm an cdv ct) ⟨us, []⟩ = pure (ps.zip us)) :
    ∃ (f : Addr) (fd : FuncData), Cls K (ga K C) ∧ Meth K (ga K C) m f ∧ Fun K m q st f fd ∧ Binds K fd ps [] := by
  obtain ⟨fd, F⟩ := SaysD.defs c.t.d hd
  have F2 := fun_of F
  exact ⟨_, fd, cls_ok (SaysD.facts c.t.d hc), meth_ok (SaysD.facts c.t.d hm), F2, F2.binds hb⟩
theorem init_at (c : SaysY file fa fn ts xs ex tf w h K) (C q : Str) (st : Stmt) (ps : List Str) (hd : (⟨(C, some "__init__"), "__init__", q, defArgs st, defBody st, defScope st, [], []⟩ : DefD) ∈ fn) (hm : Fa.mkr C ∈ fa)
    (hb : ∀ (kV doc pm : Value) (an : Option Addr) (cdv ct : Value) (us : List Value), us.length = ps.length → bindArgs (PySem.W.fnOf "__init__" q (defArgs st) (defBody st) (defScope st) .none kV doc pm an cdv ct) ⟨us, []⟩ = pure (ps.zip us)) :
    ∃ (f : Addr) (fd : FuncData), Mk K (ga K C) f ∧ Fun K "__init__" q st f fd ∧ Binds K fd ps [] := by
  obtain ⟨fd, F⟩ := SaysD.defs c.t.d hd
  have F2 := fun_of F
  exact ⟨_, fd, mkr_ok (SaysD.facts c.t.d hm), F2, F2.binds hb⟩
theorem noat_at (c : SaysY file fa fn ts xs ex tf w h K) {C f : Str} (hc : Fa.cls C ∈ fa) (hn : Fa.noat C f ∈ fa) : Cls K (ga K C) ∧ NoAttr K (ga K C) f := ⟨cls_ok (SaysD.facts c.t.d hc), noat_ok (SaysD.facts c.t.d hn)⟩
theorem glo_at (X : K.In h) (G : h.Ns mainGlobals mg) (c : SaysY file fa fn ts xs ex tf w h K) {x : Str} (hx : Fa.glo x ∈ fa) : mg x = some (.ref (ga K x)) := glo_ok X G (SaysD.facts c.t.d hx)
end
end DY

set_option Elab.async false
set_option linter.all false
set_option maxRecDepth 100000
set_option maxHeartbeats 4000000
namespace K54
open PySem PySem.Spec PyProof.Rows L2 DL
def topS (i : Nat) : Stmt := PySem.Challenge.pw_weaktalks_k54_layer_talks_refused.main.body.getD i (.Pass ⟨0, 0, 0, 0⟩)
abbrev s__wall : Stmt := topS 0
abbrev n__wall : List Str := ["k"]
theorem sc__wall : FnScope n__wall ["k"] (defScope s__wall) := ⟨rfl, rfl, rfl, by decide +kernel, rfl, by decide +kernel, by decide +kernel⟩
abbrev s_is_integer : Stmt := topS 2
abbrev n_is_integer : List Str := ["thing"]
theorem sc_is_integer : FnScope n_is_integer ["thing"] (defScope s_is_integer) := ⟨rfl, rfl, rfl, by decide +kernel, rfl, by decide +kernel, by decide +kernel⟩
abbrev s_is_list : Stmt := topS 3
abbrev n_is_list : List Str := ["thing"]
theorem sc_is_list : FnScope n_is_list ["thing"] (defScope s_is_list) := ⟨rfl, rfl, rfl, by decide +kernel, rfl, by decide +kernel, by decide +kernel⟩
abbrev s_first_odd : Stmt := topS 4
abbrev n_first_odd : List Str := ["things", "index", "thing"]
theorem sc_first_odd : FnScope n_first_odd ["things"] (defScope s_first_odd) := ⟨rfl, rfl, rfl, by decide +kernel, rfl, by decide +kernel, by decide +kernel⟩
abbrev s_BadPrime___init__ : Stmt := inClass (topS 7) 0
abbrev s_BadNumber___init__ : Stmt := inClass (topS 8) 0
abbrev s_BadNumbers___init__ : Stmt := inClass (topS 9) 0
abbrev s_UnlikePrimes___init__ : Stmt := inClass (topS 10) 0
abbrev s_BadCoin___init__ : Stmt := inClass (topS 11) 0
abbrev s_BadThrown___init__ : Stmt := inClass (topS 12) 0
abbrev s_BadLayer___init__ : Stmt := inClass (topS 13) 0
abbrev s_BadInputs___init__ : Stmt := inClass (topS 14) 0
abbrev s_BadGate___init__ : Stmt := inClass (topS 15) 0
abbrev s_NoLayer___init__ : Stmt := inClass (topS 16) 0
abbrev s_BadPlace___init__ : Stmt := inClass (topS 17) 0
abbrev s_check_prime : Stmt := topS 20
abbrev n_check_prime : List Str := ["prime", "part"]
theorem sc_check_prime : FnScope n_check_prime ["prime"] (defScope s_check_prime) := ⟨rfl, rfl, rfl, by decide +kernel, rfl, by decide +kernel, by decide +kernel⟩
abbrev s_check_number : Stmt := topS 21
abbrev n_check_number : List Str := ["number"]
theorem sc_check_number : FnScope n_check_number ["number"] (defScope s_check_number) := ⟨rfl, rfl, rfl, by decide +kernel, rfl, by decide +kernel, by decide +kernel⟩
abbrev s_is_coin : Stmt := topS 23
abbrev n_is_coin : List Str := ["thing"]
theorem sc_is_coin : FnScope n_is_coin ["thing"] (defScope s_is_coin) := ⟨rfl, rfl, rfl, by decide +kernel, rfl, by decide +kernel, by decide +kernel⟩
abbrev s_first_bad_coin : Stmt := topS 24
abbrev n_first_bad_coin : List Str := ["prime", "thing", "numbers", "index", "coin"]
theorem sc_first_bad_coin : FnScope n_first_bad_coin ["prime", "thing"] (defScope s_first_bad_coin) := ⟨rfl, rfl, rfl, by decide +kernel, rfl, by decide +kernel, by decide +kernel⟩
abbrev s_check_coins : Stmt := topS 25
abbrev n_check_coins : List Str := ["prime", "thing", "index"]
theorem sc_check_coins : FnScope n_check_coins ["prime", "thing"] (defScope s_check_coins) := ⟨rfl, rfl, rfl, by decide +kernel, rfl, by decide +kernel, by decide +kernel⟩
abbrev s_is_gate : Stmt := topS 28
abbrev n_is_gate : List Str := ["thing", "cells", "cell"]
theorem sc_is_gate : FnScope n_is_gate ["thing", "cells"] (defScope s_is_gate) := ⟨rfl, rfl, rfl, by decide +kernel, rfl, by decide +kernel, by decide +kernel⟩
abbrev s_gate_row : Stmt := topS 29
abbrev n_gate_row : List Str := ["gates", "cells", "prime", "found", "deed", "first", "second", "one", "other"]
theorem sc_gate_row : FnScope n_gate_row ["gates", "cells", "prime"] (defScope s_gate_row) := ⟨rfl, rfl, rfl, by decide +kernel, rfl, by decide +kernel, by decide +kernel⟩
abbrev s_folded : Stmt := topS 30
abbrev n_folded : List Str := ["numbers", "place", "prime", "value", "half", "low", "high"]
theorem sc_folded : FnScope n_folded ["numbers", "place", "prime"] (defScope s_folded) := ⟨rfl, rfl, rfl, by decide +kernel, rfl, by decide +kernel, by decide +kernel⟩
abbrev s_Gates___init__ : Stmt := inClass (topS 31) 0
abbrev n_Gates___init__ : List Str := ["self", "prime", "layers", "inputs", "sizes", "rows", "worths", "row", "index", "layer", "place", "thing", "gate", "number"]
theorem sc_Gates___init__ : FnScope n_Gates___init__ ["self", "prime", "layers", "inputs"] (defScope s_Gates___init__) := ⟨rfl, rfl, rfl, by decide +kernel, rfl, by decide +kernel, by decide +kernel⟩
abbrev s_Gates_layers : Stmt := inClass (topS 31) 1
abbrev n_Gates_layers : List Str := ["self", "row"]
theorem sc_Gates_layers : FnScope n_Gates_layers ["self"] (defScope s_Gates_layers) := ⟨rfl, rfl, rfl, by decide +kernel, rfl, by decide +kernel, by decide +kernel⟩
abbrev s_Gates___len__ : Stmt := inClass (topS 31) 2
abbrev n_Gates___len__ : List Str := ["self"]
theorem sc_Gates___len__ : FnScope n_Gates___len__ ["self"] (defScope s_Gates___len__) := ⟨rfl, rfl, rfl, by decide +kernel, rfl, by decide +kernel, by decide +kernel⟩
abbrev s_Gates___eq__ : Stmt := inClass (topS 31) 3
abbrev n_Gates___eq__ : List Str := ["self", "other"]
theorem sc_Gates___eq__ : FnScope n_Gates___eq__ ["self", "other"] (defScope s_Gates___eq__) := ⟨rfl, rfl, rfl, by decide +kernel, rfl, by decide +kernel, by decide +kernel⟩
abbrev s_Gates_check_layer : Stmt := inClass (topS 31) 4
abbrev n_Gates_check_layer : List Str := ["self", "layer"]
theorem sc_Gates_check_layer : FnScope n_Gates_check_layer ["self", "layer"] (defScope s_Gates_check_layer) := ⟨rfl, rfl, rfl, by decide +kernel, rfl, by decide +kernel, by decide +kernel⟩
abbrev s_Gates_cells : Stmt := inClass (topS 31) 5
abbrev n_Gates_cells : List Str := ["self", "layer"]
theorem sc_Gates_cells : FnScope n_Gates_cells ["self", "layer"] (defScope s_Gates_cells) := ⟨rfl, rfl, rfl, by decide +kernel, rfl, by decide +kernel, by decide +kernel⟩
abbrev s_Gates_told : Stmt := inClass (topS 31) 6
abbrev n_Gates_told : List Str := ["self"]
theorem sc_Gates_told : FnScope n_Gates_told ["self"] (defScope s_Gates_told) := ⟨rfl, rfl, rfl, by decide +kernel, rfl, by decide +kernel, by decide +kernel⟩
abbrev s_Gates_bits : Stmt := inClass (topS 31) 7
abbrev n_Gates_bits : List Str := ["self", "layer"]
theorem sc_Gates_bits : FnScope n_Gates_bits ["self", "layer"] (defScope s_Gates_bits) := ⟨rfl, rfl, rfl, by decide +kernel, rfl, by decide +kernel, by decide +kernel⟩
abbrev s_Gates_extended : Stmt := inClass (topS 31) 8
abbrev n_Gates_extended : List Str := ["self", "layer", "place", "many"]
theorem sc_Gates_extended : FnScope n_Gates_extended ["self", "layer", "place"] (defScope s_Gates_extended) := ⟨rfl, rfl, rfl, by decide +kernel, rfl, by decide +kernel, by decide +kernel⟩
abbrev s_check_like : Stmt := topS 33
abbrev n_check_like : List Str := ["one", "other"]
theorem sc_check_like : FnScope n_check_like ["one", "other"] (defScope s_check_like) := ⟨rfl, rfl, rfl, by decide +kernel, rfl, by decide +kernel, by decide +kernel⟩
abbrev s_worth_at : Stmt := topS 34
abbrev n_worth_at : List Str := ["row", "number", "prime", "found", "one"]
theorem sc_worth_at : FnScope n_worth_at ["row", "number", "prime"] (defScope s_worth_at) := ⟨rfl, rfl, rfl, by decide +kernel, rfl, by decide +kernel, by decide +kernel⟩
abbrev s_folded_at : Stmt := topS 35
abbrev n_folded_at : List Str := ["one", "other", "place", "spot", "number"]
theorem sc_folded_at : FnScope n_folded_at ["one", "other", "place"] (defScope s_folded_at) := ⟨rfl, rfl, rfl, by decide +kernel, rfl, by decide +kernel, by decide +kernel⟩
abbrev s_Poly___init__ : Stmt := inClass (topS 36) 0
abbrev n_Poly___init__ : List Str := ["self", "prime", "numbers", "odd", "row", "one"]
theorem sc_Poly___init__ : FnScope n_Poly___init__ ["self", "prime", "numbers"] (defScope s_Poly___init__) := ⟨rfl, rfl, rfl, by decide +kernel, rfl, by decide +kernel, by decide +kernel⟩
abbrev s_Poly_numbers : Stmt := inClass (topS 36) 1
abbrev n_Poly_numbers : List Str := ["self"]
theorem sc_Poly_numbers : FnScope n_Poly_numbers ["self"] (defScope s_Poly_numbers) := ⟨rfl, rfl, rfl, by decide +kernel, rfl, by decide +kernel, by decide +kernel⟩
abbrev s_Poly_degree : Stmt := inClass (topS 36) 2
abbrev n_Poly_degree : List Str := ["self"]
theorem sc_Poly_degree : FnScope n_Poly_degree ["self"] (defScope s_Poly_degree) := ⟨rfl, rfl, rfl, by decide +kernel, rfl, by decide +kernel, by decide +kernel⟩
abbrev s_Poly_at : Stmt := inClass (topS 36) 3
abbrev n_Poly_at : List Str := ["self", "number"]
theorem sc_Poly_at : FnScope n_Poly_at ["self", "number"] (defScope s_Poly_at) := ⟨rfl, rfl, rfl, by decide +kernel, rfl, by decide +kernel, by decide +kernel⟩
abbrev s_Poly___eq__ : Stmt := inClass (topS 36) 4
abbrev n_Poly___eq__ : List Str := ["self", "other"]
theorem sc_Poly___eq__ : FnScope n_Poly___eq__ ["self", "other"] (defScope s_Poly___eq__) := ⟨rfl, rfl, rfl, by decide +kernel, rfl, by decide +kernel, by decide +kernel⟩
abbrev s_Poly___add__ : Stmt := inClass (topS 36) 5
abbrev n_Poly___add__ : List Str := ["self", "other", "size", "one", "two", "x", "y"]
theorem sc_Poly___add__ : FnScope n_Poly___add__ ["self", "other"] (defScope s_Poly___add__) := ⟨rfl, rfl, rfl, by decide +kernel, rfl, by decide +kernel, by decide +kernel⟩
abbrev s_Poly___sub__ : Stmt := inClass (topS 36) 6
abbrev n_Poly___sub__ : List Str := ["self", "other", "size", "one", "two", "x", "y"]
theorem sc_Poly___sub__ : FnScope n_Poly___sub__ ["self", "other"] (defScope s_Poly___sub__) := ⟨rfl, rfl, rfl, by decide +kernel, rfl, by decide +kernel, by decide +kernel⟩
abbrev s_Poly___mul__ : Stmt := inClass (topS 36) 7
abbrev n_Poly___mul__ : List Str := ["self", "other", "size", "place"]
theorem sc_Poly___mul__ : FnScope n_Poly___mul__ ["self", "other"] (defScope s_Poly___mul__) := ⟨rfl, rfl, rfl, by decide +kernel, rfl, by decide +kernel, by decide +kernel⟩
abbrev s_Poly_parted : Stmt := inClass (topS 36) 8
abbrev n_Poly_parted : List Str := ["self", "other"]
theorem sc_Poly_parted : FnScope n_Poly_parted ["self", "other"] (defScope s_Poly_parted) := ⟨rfl, rfl, rfl, by decide +kernel, rfl, by decide +kernel, by decide +kernel⟩
abbrev s_Poly_roots : Stmt := inClass (topS 36) 9
abbrev n_Poly_roots : List Str := ["self"]
theorem sc_Poly_roots : FnScope n_Poly_roots ["self"] (defScope s_Poly_roots) := ⟨rfl, rfl, rfl, by decide +kernel, rfl, by decide +kernel, by decide +kernel⟩
abbrev s_check_thrown : Stmt := topS 38
abbrev n_check_thrown : List Str := ["thrown", "most", "odd"]
theorem sc_check_thrown : FnScope n_check_thrown ["thrown", "most"] (defScope s_check_thrown) := ⟨rfl, rfl, rfl, by decide +kernel, rfl, by decide +kernel, by decide +kernel⟩
abbrev s_at_corner : Stmt := topS 40
abbrev n_at_corner : List Str := ["index", "place", "prime", "found", "value"]
theorem sc_at_corner : FnScope n_at_corner ["index", "place", "prime"] (defScope s_at_corner) := ⟨rfl, rfl, rfl, by decide +kernel, rfl, by decide +kernel, by decide +kernel⟩
abbrev s_poly_at_corner : Stmt := topS 41
abbrev n_poly_at_corner : List Str := ["index", "place", "prime", "value", "found", "one"]
theorem sc_poly_at_corner : FnScope n_poly_at_corner ["index", "place", "prime"] (defScope s_poly_at_corner) := ⟨rfl, rfl, rfl, by decide +kernel, rfl, by decide +kernel, by decide +kernel⟩
abbrev s_poly_folded : Stmt := topS 42
abbrev n_poly_folded : List Str := ["numbers", "place", "prime", "rows", "value", "half", "number", "low", "high"]
theorem sc_poly_folded : FnScope n_poly_folded ["numbers", "place", "prime"] (defScope s_poly_folded) := ⟨rfl, rfl, rfl, by decide +kernel, rfl, by decide +kernel, by decide +kernel⟩
abbrev s_all_corners : Stmt := topS 43
abbrev n_all_corners : List Str := ["many", "found", "turn", "corner", "bit"]
theorem sc_all_corners : FnScope n_all_corners ["many"] (defScope s_all_corners) := ⟨rfl, rfl, rfl, by decide +kernel, rfl, by decide +kernel, by decide +kernel⟩
abbrev s_Layers___init__ : Stmt := inClass (topS 44) 0
abbrev n_Layers___init__ : List Str := ["self", "net", "place", "coins", "layer", "number", "weight"]
theorem sc_Layers___init__ : FnScope n_Layers___init__ ["self", "net", "place", "coins"] (defScope s_Layers___init__) := ⟨rfl, rfl, rfl, by decide +kernel, rfl, by decide +kernel, by decide +kernel⟩
abbrev s_Layers_place : Stmt := inClass (topS 44) 1
abbrev n_Layers_place : List Str := ["self"]
theorem sc_Layers_place : FnScope n_Layers_place ["self"] (defScope s_Layers_place) := ⟨rfl, rfl, rfl, by decide +kernel, rfl, by decide +kernel, by decide +kernel⟩
abbrev s_Layers_beats : Stmt := inClass (topS 44) 2
abbrev n_Layers_beats : List Str := ["self"]
theorem sc_Layers_beats : FnScope n_Layers_beats ["self"] (defScope s_Layers_beats) := ⟨rfl, rfl, rfl, by decide +kernel, rfl, by decide +kernel, by decide +kernel⟩
abbrev s_Layers_spot : Stmt := inClass (topS 44) 3
abbrev n_Layers_spot : List Str := ["self", "thrown", "layer", "place", "own", "many", "first", "second", "coin", "number", "b", "c"]
theorem sc_Layers_spot : FnScope n_Layers_spot ["self", "thrown"] (defScope s_Layers_spot) := ⟨rfl, rfl, rfl, by decide +kernel, rfl, by decide +kernel, by decide +kernel⟩
abbrev s_Layers_next_spot : Stmt := inClass (topS 44) 4
abbrev n_Layers_next_spot : List Str := ["self", "thrown"]
theorem sc_Layers_next_spot : FnScope n_Layers_next_spot ["self", "thrown"] (defScope s_Layers_next_spot) := ⟨rfl, rfl, rfl, by decide +kernel, rfl, by decide +kernel, by decide +kernel⟩
abbrev s_Layers_weights : Stmt := inClass (topS 44) 5
abbrev n_Layers_weights : List Str := ["self", "layer", "place", "both", "many", "sums", "products", "index", "more", "deed", "first", "second"]
theorem sc_Layers_weights : FnScope n_Layers_weights ["self", "layer", "place", "both"] (defScope s_Layers_weights) := ⟨rfl, rfl, rfl, by decide +kernel, rfl, by decide +kernel, by decide +kernel⟩
abbrev s_Layers_joint : Stmt := inClass (topS 44) 6
abbrev n_Layers_joint : List Str := ["self", "layer", "place", "both", "many", "cells", "one", "other", "sums", "products"]
theorem sc_Layers_joint : FnScope n_Layers_joint ["self", "layer", "place", "both"] (defScope s_Layers_joint) := ⟨rfl, rfl, rfl, by decide +kernel, rfl, by decide +kernel, by decide +kernel⟩
abbrev s_Layers_poly_joint : Stmt := inClass (topS 44) 7
abbrev n_Layers_poly_joint : List Str := ["self", "layer", "place", "both", "many", "cells", "found", "one", "other", "index", "more", "deed", "first", "second"]
theorem sc_Layers_poly_joint : FnScope n_Layers_poly_joint ["self", "layer", "place", "both"] (defScope s_Layers_poly_joint) := ⟨rfl, rfl, rfl, by decide +kernel, rfl, by decide +kernel, by decide +kernel⟩
abbrev s_Layers_degree : Stmt := inClass (topS 44) 8
abbrev n_Layers_degree : List Str := ["self", "thrown", "many", "layer", "place", "own"]
theorem sc_Layers_degree : FnScope n_Layers_degree ["self", "thrown"] (defScope s_Layers_degree) := ⟨rfl, rfl, rfl, by decide +kernel, rfl, by decide +kernel, by decide +kernel⟩
abbrev s_Layers_coins : Stmt := inClass (topS 44) 9
abbrev n_Layers_coins : List Str := ["self", "thrown"]
theorem sc_Layers_coins : FnScope n_Layers_coins ["self", "thrown"] (defScope s_Layers_coins) := ⟨rfl, rfl, rfl, by decide +kernel, rfl, by decide +kernel, by decide +kernel⟩
abbrev s_Layers_claims : Stmt := inClass (topS 44) 10
abbrev n_Layers_claims : List Str := ["self", "thrown", "message", "layer", "place", "own", "low", "high", "sums", "products"]
theorem sc_Layers_claims : FnScope n_Layers_claims ["self", "thrown", "message"] (defScope s_Layers_claims) := ⟨rfl, rfl, rfl, by decide +kernel, rfl, by decide +kernel, by decide +kernel⟩
abbrev s_Layers_truth : Stmt := inClass (topS 44) 11
abbrev n_Layers_truth : List Str := ["self", "thrown", "left", "layer", "place", "own", "corner"]
theorem sc_Layers_truth : FnScope n_Layers_truth ["self", "thrown"] (defScope s_Layers_truth) := ⟨rfl, rfl, rfl, by decide +kernel, rfl, by decide +kernel, by decide +kernel⟩
abbrev s_Layers_right : Stmt := inClass (topS 44) 12
abbrev n_Layers_right : List Str := ["self", "thrown", "many", "row", "layer", "place", "own", "line", "found", "ahead", "corner", "b", "c", "number", "bit"]
theorem sc_Layers_right : FnScope n_Layers_right ["self", "thrown"] (defScope s_Layers_right) := ⟨rfl, rfl, rfl, by decide +kernel, rfl, by decide +kernel, by decide +kernel⟩
abbrev s_Layers_ends : Stmt := inClass (topS 44) 13
abbrev n_Layers_ends : List Str := ["self", "thrown", "claim", "layer", "place", "own"]
theorem sc_Layers_ends : FnScope n_Layers_ends ["self", "thrown", "claim"] (defScope s_Layers_ends) := ⟨rfl, rfl, rfl, by decide +kernel, rfl, by decide +kernel, by decide +kernel⟩
abbrev s__law_g_lot : Stmt := topS 46
abbrev n__law_g_lot : List Str := ["_law_stream", "_law_prime", "_law_most", "_law_found", "_law_number", "_law_beyond"]
theorem sc__law_g_lot : FnScope n__law_g_lot ["_law_stream", "_law_prime", "_law_most"] (defScope s__law_g_lot) := ⟨rfl, rfl, rfl, by decide +kernel, rfl, by decide +kernel, by decide +kernel⟩
abbrev s__law_l_gates : Stmt := topS 47
abbrev n__law_l_gates : List Str := ["_law_stream", "_law_many", "_law_cells", "_law_k"]
theorem sc__law_l_gates : FnScope n__law_l_gates ["_law_stream", "_law_many", "_law_cells"] (defScope s__law_l_gates) := ⟨rfl, rfl, rfl, by decide +kernel, rfl, by decide +kernel, by decide +kernel⟩
abbrev s__law_l_plan : Stmt := topS 48
abbrev n__law_l_plan : List Str := ["_law_stream", "_law_prime", "_law_deep", "_law_sizes", "_law_lots", "_law_layers", "_law_k"]
theorem sc__law_l_plan : FnScope n__law_l_plan ["_law_stream", "_law_prime", "_law_deep", "_law_sizes"] (defScope s__law_l_plan) := ⟨rfl, rfl, rfl, by decide +kernel, rfl, by decide +kernel, by decide +kernel⟩
abbrev s__law_start : Stmt := topS 49
abbrev n__law_start : List Str := ["_law_script"]
theorem sc__law_start : FnScope n__law_start ["_law_script"] (defScope s__law_start) := ⟨rfl, rfl, rfl, by decide +kernel, rfl, by decide +kernel, by decide +kernel⟩
abbrev s__law_draw : Stmt := topS 50
abbrev n__law_draw : List Str := ["_law_stream", "_law_many", "_law_mixed_here", "_law_cell", "_law_digit"]
theorem sc__law_draw : FnScope n__law_draw ["_law_stream", "_law_many"] (defScope s__law_draw) := ⟨rfl, rfl, rfl, by decide +kernel, rfl, by decide +kernel, by decide +kernel⟩
abbrev s__law_pick : Stmt := topS 51
abbrev n__law_pick : List Str := ["_law_stream", "_law_some"]
theorem sc__law_pick : FnScope n__law_pick ["_law_stream", "_law_some"] (defScope s__law_pick) := ⟨rfl, rfl, rfl, by decide +kernel, rfl, by decide +kernel, by decide +kernel⟩
abbrev s__law_mixed : Stmt := topS 52
abbrev n__law_mixed : List Str := ["_law_stream", "_law_some", "_law_left", "_law_k"]
theorem sc__law_mixed : FnScope n__law_mixed ["_law_stream", "_law_some"] (defScope s__law_mixed) := ⟨rfl, rfl, rfl, by decide +kernel, rfl, by decide +kernel, by decide +kernel⟩
abbrev s__law_same : Stmt := topS 53
abbrev n__law_same : List Str := ["_law_found", "_law_due", "_law_x", "_law_y"]
theorem sc__law_same : FnScope n__law_same ["_law_found", "_law_due"] (defScope s__law_same) := ⟨rfl, rfl, rfl, by decide +kernel, rfl, by decide +kernel, by decide +kernel⟩
abbrev s__law_frozen : Stmt := topS 54
abbrev n__law_frozen : List Str := ["_law_thing", "_law_key", "_law_part"]
theorem sc__law_frozen : FnScope n__law_frozen ["_law_thing"] (defScope s__law_frozen) := ⟨rfl, rfl, rfl, by decide +kernel, rfl, by decide +kernel, by decide +kernel⟩
abbrev s__law_tried : Stmt := topS 55
abbrev n__law_tried : List Str := ["_law_ask", "_law_found", "e"]
theorem sc__law_tried : FnScope n__law_tried ["_law_ask"] (defScope s__law_tried) := ⟨rfl, rfl, rfl, by decide +kernel, rfl, by decide +kernel, by decide +kernel⟩
abbrev s__law_coins_refused : Stmt := topS 56
abbrev n__law_coins_refused : List Str := ["_law_stream", "_law_net", "_law_place", "_law_fine", "_law_some", "_law_odd", "_law_at", "_law_lot"]
theorem sc__law_coins_refused : FnScope n__law_coins_refused ["_law_stream", "_law_net", "_law_place"] (defScope s__law_coins_refused) := ⟨rfl, rfl, rfl, by decide +kernel, rfl, by decide +kernel, by decide +kernel⟩
abbrev s__law_thrown_refused : Stmt := topS 57
abbrev n__law_thrown_refused : List Str := ["_law_talk", "_law_many", "_law_thrown", "_law_pairs", "_law_some", "_law_less", "_law_odd", "_law_due", "_law_found"]
theorem sc__law_thrown_refused : FnScope n__law_thrown_refused ["_law_talk", "_law_many", "_law_thrown"] (defScope s__law_thrown_refused) := ⟨rfl, rfl, rfl, by decide +kernel, rfl, by decide +kernel, by decide +kernel⟩
abbrev s_law : Stmt := topS 58
abbrev n_law : List Str := ["_law_script", "_law_stream", "_law_turn", "_law_plan", "_law_net", "_law_place", "_law_many", "_law_odd", "_law_talk", "_law_thrown", "_law_found", "_law_k", "_law_claim"]
theorem sc_law : FnScope n_law ["_law_script"] (defScope s_law) := ⟨rfl, rfl, rfl, by decide +kernel, rfl, by decide +kernel, by decide +kernel⟩
/-- where the top has written it -/
structure Ad where
  TalkError : Addr
  BadPrime : Addr
  BadNumber : Addr
  BadNumbers : Addr
  UnlikePrimes : Addr
  BadCoin : Addr
  BadThrown : Addr
  BadLayer : Addr
  BadInputs : Addr
  BadGate : Addr
  NoLayer : Addr
  BadPlace : Addr
  Gates : Addr
  Poly : Addr
  Layers : Addr
  BITS : Addr
  cL : Addr
  tL : Addr
  cL2 : Addr
  tL2 : Addr
  cL3 : Addr
  tL3 : Addr
/-- what the top has written -/
structure Tx (P : Program) (K : PySem.W.Frag) (mg : Str → Option Value) (A : Ad) : Prop where
  x_BadPrime : ∃ fI, DX.Txt P K mg "BadPrime" A.BadPrime fI ["prime"]
  x_BadNumber : ∃ fI, DX.Txt P K mg "BadNumber" A.BadNumber fI ["number"]
  x_BadCoin : ∃ fI, DX.Txt P K mg "BadCoin" A.BadCoin fI ["index"]
  x_BadLayer : ∃ fI, DX.Txt P K mg "BadLayer" A.BadLayer fI ["index"]
  x_BadInputs : ∃ fI, DX.Txt P K mg "BadInputs" A.BadInputs fI ["inputs"]
  x_BadGate : ∃ fI, DX.Txt P K mg "BadGate" A.BadGate fI ["layer", "index"]
  x_NoLayer : ∃ fI, DX.Txt P K mg "NoLayer" A.NoLayer fI ["layer"]
  x_BadPlace : ∃ fI, DX.Txt P K mg "BadPlace" A.BadPlace fI ["thing"]
  x_UnlikePrimes : ∃ fI, DX.Txt P K mg "UnlikePrimes" A.UnlikePrimes fI []
  x_BadNumbers : ∃ fI, DX.Txt P K mg "BadNumbers" A.BadNumbers fI ["index"]
  x_BadThrown : ∃ fI, DX.Txt P K mg "BadThrown" A.BadThrown fI ["index"]
  e_BadPrime_BadPlace : PySem.W.exmOne K (.ref A.BadPrime) (.ref A.BadPlace) = some false
  e_BadPrime_BadCoin : PySem.W.exmOne K (.ref A.BadPrime) (.ref A.BadCoin) = some false
  e_BadPrime_BadThrown : PySem.W.exmOne K (.ref A.BadPrime) (.ref A.BadThrown) = some false
  e_BadPrime_BadNumber : PySem.W.exmOne K (.ref A.BadPrime) (.ref A.BadNumber) = some false
  e_BadNumber_BadPlace : PySem.W.exmOne K (.ref A.BadNumber) (.ref A.BadPlace) = some false
  e_BadNumber_BadCoin : PySem.W.exmOne K (.ref A.BadNumber) (.ref A.BadCoin) = some false
  e_BadNumber_BadThrown : PySem.W.exmOne K (.ref A.BadNumber) (.ref A.BadThrown) = some false
  e_BadNumber_BadNumber : PySem.W.exmOne K (.ref A.BadNumber) (.ref A.BadNumber) = some true
  e_BadCoin_BadPlace : PySem.W.exmOne K (.ref A.BadCoin) (.ref A.BadPlace) = some false
  e_BadCoin_BadCoin : PySem.W.exmOne K (.ref A.BadCoin) (.ref A.BadCoin) = some true
  e_BadCoin_BadThrown : PySem.W.exmOne K (.ref A.BadCoin) (.ref A.BadThrown) = some false
  e_BadCoin_BadNumber : PySem.W.exmOne K (.ref A.BadCoin) (.ref A.BadNumber) = some false
  e_BadLayer_BadPlace : PySem.W.exmOne K (.ref A.BadLayer) (.ref A.BadPlace) = some false
  e_BadLayer_BadCoin : PySem.W.exmOne K (.ref A.BadLayer) (.ref A.BadCoin) = some false
  e_BadLayer_BadThrown : PySem.W.exmOne K (.ref A.BadLayer) (.ref A.BadThrown) = some false
  e_BadLayer_BadNumber : PySem.W.exmOne K (.ref A.BadLayer) (.ref A.BadNumber) = some false
  e_BadInputs_BadPlace : PySem.W.exmOne K (.ref A.BadInputs) (.ref A.BadPlace) = some false
  e_BadInputs_BadCoin : PySem.W.exmOne K (.ref A.BadInputs) (.ref A.BadCoin) = some false
  e_BadInputs_BadThrown : PySem.W.exmOne K (.ref A.BadInputs) (.ref A.BadThrown) = some false
  e_BadInputs_BadNumber : PySem.W.exmOne K (.ref A.BadInputs) (.ref A.BadNumber) = some false
  e_BadGate_BadPlace : PySem.W.exmOne K (.ref A.BadGate) (.ref A.BadPlace) = some false
  e_BadGate_BadCoin : PySem.W.exmOne K (.ref A.BadGate) (.ref A.BadCoin) = some false
  e_BadGate_BadThrown : PySem.W.exmOne K (.ref A.BadGate) (.ref A.BadThrown) = some false
  e_BadGate_BadNumber : PySem.W.exmOne K (.ref A.BadGate) (.ref A.BadNumber) = some false
  e_NoLayer_BadPlace : PySem.W.exmOne K (.ref A.NoLayer) (.ref A.BadPlace) = some false
  e_NoLayer_BadCoin : PySem.W.exmOne K (.ref A.NoLayer) (.ref A.BadCoin) = some false
  e_NoLayer_BadThrown : PySem.W.exmOne K (.ref A.NoLayer) (.ref A.BadThrown) = some false
  e_NoLayer_BadNumber : PySem.W.exmOne K (.ref A.NoLayer) (.ref A.BadNumber) = some false
  e_BadPlace_BadPlace : PySem.W.exmOne K (.ref A.BadPlace) (.ref A.BadPlace) = some true
  e_BadPlace_BadCoin : PySem.W.exmOne K (.ref A.BadPlace) (.ref A.BadCoin) = some false
  e_BadPlace_BadThrown : PySem.W.exmOne K (.ref A.BadPlace) (.ref A.BadThrown) = some false
  e_BadPlace_BadNumber : PySem.W.exmOne K (.ref A.BadPlace) (.ref A.BadNumber) = some false
  e_UnlikePrimes_BadPlace : PySem.W.exmOne K (.ref A.UnlikePrimes) (.ref A.BadPlace) = some false
  e_UnlikePrimes_BadCoin : PySem.W.exmOne K (.ref A.UnlikePrimes) (.ref A.BadCoin) = some false
  e_UnlikePrimes_BadThrown : PySem.W.exmOne K (.ref A.UnlikePrimes) (.ref A.BadThrown) = some false
  e_UnlikePrimes_BadNumber : PySem.W.exmOne K (.ref A.UnlikePrimes) (.ref A.BadNumber) = some false
  e_BadNumbers_BadPlace : PySem.W.exmOne K (.ref A.BadNumbers) (.ref A.BadPlace) = some false
  e_BadNumbers_BadCoin : PySem.W.exmOne K (.ref A.BadNumbers) (.ref A.BadCoin) = some false
  e_BadNumbers_BadThrown : PySem.W.exmOne K (.ref A.BadNumbers) (.ref A.BadThrown) = some false
  e_BadNumbers_BadNumber : PySem.W.exmOne K (.ref A.BadNumbers) (.ref A.BadNumber) = some false
  e_BadThrown_BadPlace : PySem.W.exmOne K (.ref A.BadThrown) (.ref A.BadPlace) = some false
  e_BadThrown_BadCoin : PySem.W.exmOne K (.ref A.BadThrown) (.ref A.BadCoin) = some false
  e_BadThrown_BadThrown : PySem.W.exmOne K (.ref A.BadThrown) (.ref A.BadThrown) = some true
  e_BadThrown_BadNumber : PySem.W.exmOne K (.ref A.BadThrown) (.ref A.BadNumber) = some false
  m_Gates : mg "Gates" = some (.ref A.Gates)
  k_Gates : CK K A.Gates
  ne_Gates : NeC K A.Gates
  n_Gates_prime : Cls K A.Gates ∧ NoAttr K A.Gates "prime"
  n_Gates_rows : Cls K A.Gates ∧ NoAttr K A.Gates "rows"
  n_Gates_worths : Cls K A.Gates ∧ NoAttr K A.Gates "worths"
  i_Gates : ∃ (f : Addr) (fd : FuncData), Mk K A.Gates f ∧ Fun K "__init__" "Gates.__init__" s_Gates___init__ f fd ∧ Binds K fd ["self", "prime", "layers", "inputs"] []
  t_Gates_layers : ∃ (f : Addr) (fd : FuncData), Cls K A.Gates ∧ Meth K A.Gates "layers" f ∧ Fun K "layers" "Gates.layers" s_Gates_layers f fd ∧ Binds K fd ["self"] []
  t_Gates___len__ : ∃ (f : Addr) (fd : FuncData), Cls K A.Gates ∧ Meth K A.Gates "__len__" f ∧ Fun K "__len__" "Gates.__len__" s_Gates___len__ f fd ∧ Binds K fd ["self"] []
  t_Gates___eq__ : ∃ (f : Addr) (fd : FuncData), Cls K A.Gates ∧ Meth K A.Gates "__eq__" f ∧ Fun K "__eq__" "Gates.__eq__" s_Gates___eq__ f fd ∧ Binds K fd ["self", "other"] []
  t_Gates_check_layer : ∃ (f : Addr) (fd : FuncData), Cls K A.Gates ∧ Meth K A.Gates "check_layer" f ∧ Fun K "check_layer" "Gates.check_layer" s_Gates_check_layer f fd ∧ Binds K fd ["self", "layer"] []
  t_Gates_cells : ∃ (f : Addr) (fd : FuncData), Cls K A.Gates ∧ Meth K A.Gates "cells" f ∧ Fun K "cells" "Gates.cells" s_Gates_cells f fd ∧ Binds K fd ["self", "layer"] []
  t_Gates_told : ∃ (f : Addr) (fd : FuncData), Cls K A.Gates ∧ Meth K A.Gates "told" f ∧ Fun K "told" "Gates.told" s_Gates_told f fd ∧ Binds K fd ["self"] []
  t_Gates_bits : ∃ (f : Addr) (fd : FuncData), Cls K A.Gates ∧ Meth K A.Gates "bits" f ∧ Fun K "bits" "Gates.bits" s_Gates_bits f fd ∧ Binds K fd ["self", "layer"] []
  t_Gates_extended : ∃ (f : Addr) (fd : FuncData), Cls K A.Gates ∧ Meth K A.Gates "extended" f ∧ Fun K "extended" "Gates.extended" s_Gates_extended f fd ∧ Binds K fd ["self", "layer", "place"] []
  m_Poly : mg "Poly" = some (.ref A.Poly)
  k_Poly : CK K A.Poly
  ne_Poly : NeC K A.Poly
  n_Poly_prime : Cls K A.Poly ∧ NoAttr K A.Poly "prime"
  n_Poly_row : Cls K A.Poly ∧ NoAttr K A.Poly "row"
  i_Poly : ∃ (f : Addr) (fd : FuncData), Mk K A.Poly f ∧ Fun K "__init__" "Poly.__init__" s_Poly___init__ f fd ∧ Binds K fd ["self", "prime", "numbers"] []
  t_Poly_numbers : ∃ (f : Addr) (fd : FuncData), Cls K A.Poly ∧ Meth K A.Poly "numbers" f ∧ Fun K "numbers" "Poly.numbers" s_Poly_numbers f fd ∧ Binds K fd ["self"] []
  t_Poly_degree : ∃ (f : Addr) (fd : FuncData), Cls K A.Poly ∧ Meth K A.Poly "degree" f ∧ Fun K "degree" "Poly.degree" s_Poly_degree f fd ∧ Binds K fd ["self"] []
  t_Poly_at : ∃ (f : Addr) (fd : FuncData), Cls K A.Poly ∧ Meth K A.Poly "at" f ∧ Fun K "at" "Poly.at" s_Poly_at f fd ∧ Binds K fd ["self", "number"] []
  t_Poly___eq__ : ∃ (f : Addr) (fd : FuncData), Cls K A.Poly ∧ Meth K A.Poly "__eq__" f ∧ Fun K "__eq__" "Poly.__eq__" s_Poly___eq__ f fd ∧ Binds K fd ["self", "other"] []
  t_Poly___add__ : ∃ (f : Addr) (fd : FuncData), Cls K A.Poly ∧ Meth K A.Poly "__add__" f ∧ Fun K "__add__" "Poly.__add__" s_Poly___add__ f fd ∧ Binds K fd ["self", "other"] []
  t_Poly___sub__ : ∃ (f : Addr) (fd : FuncData), Cls K A.Poly ∧ Meth K A.Poly "__sub__" f ∧ Fun K "__sub__" "Poly.__sub__" s_Poly___sub__ f fd ∧ Binds K fd ["self", "other"] []
  t_Poly___mul__ : ∃ (f : Addr) (fd : FuncData), Cls K A.Poly ∧ Meth K A.Poly "__mul__" f ∧ Fun K "__mul__" "Poly.__mul__" s_Poly___mul__ f fd ∧ Binds K fd ["self", "other"] []
  t_Poly_parted : ∃ (f : Addr) (fd : FuncData), Cls K A.Poly ∧ Meth K A.Poly "parted" f ∧ Fun K "parted" "Poly.parted" s_Poly_parted f fd ∧ Binds K fd ["self", "other"] []
  t_Poly_roots : ∃ (f : Addr) (fd : FuncData), Cls K A.Poly ∧ Meth K A.Poly "roots" f ∧ Fun K "roots" "Poly.roots" s_Poly_roots f fd ∧ Binds K fd ["self"] []
  m_Layers : mg "Layers" = some (.ref A.Layers)
  k_Layers : CK K A.Layers
  n_Layers_net : Cls K A.Layers ∧ NoAttr K A.Layers "net"
  n_Layers_prime : Cls K A.Layers ∧ NoAttr K A.Layers "prime"
  n_Layers_begin : Cls K A.Layers ∧ NoAttr K A.Layers "begin"
  n_Layers_lot : Cls K A.Layers ∧ NoAttr K A.Layers "lot"
  n_Layers_sizes : Cls K A.Layers ∧ NoAttr K A.Layers "sizes"
  i_Layers : ∃ (f : Addr) (fd : FuncData), Mk K A.Layers f ∧ Fun K "__init__" "Layers.__init__" s_Layers___init__ f fd ∧ Binds K fd ["self", "net", "place", "coins"] []
  t_Layers_place : ∃ (f : Addr) (fd : FuncData), Cls K A.Layers ∧ Meth K A.Layers "place" f ∧ Fun K "place" "Layers.place" s_Layers_place f fd ∧ Binds K fd ["self"] []
  t_Layers_beats : ∃ (f : Addr) (fd : FuncData), Cls K A.Layers ∧ Meth K A.Layers "beats" f ∧ Fun K "beats" "Layers.beats" s_Layers_beats f fd ∧ Binds K fd ["self"] []
  t_Layers_spot : ∃ (f : Addr) (fd : FuncData), Cls K A.Layers ∧ Meth K A.Layers "spot" f ∧ Fun K "spot" "Layers.spot" s_Layers_spot f fd ∧ Binds K fd ["self", "thrown"] []
  t_Layers_next_spot : ∃ (f : Addr) (fd : FuncData), Cls K A.Layers ∧ Meth K A.Layers "next_spot" f ∧ Fun K "next_spot" "Layers.next_spot" s_Layers_next_spot f fd ∧ Binds K fd ["self", "thrown"] []
  t_Layers_weights : ∃ (f : Addr) (fd : FuncData), Cls K A.Layers ∧ Meth K A.Layers "weights" f ∧ Fun K "weights" "Layers.weights" s_Layers_weights f fd ∧ Binds K fd ["self", "layer", "place", "both"] []
  t_Layers_joint : ∃ (f : Addr) (fd : FuncData), Cls K A.Layers ∧ Meth K A.Layers "joint" f ∧ Fun K "joint" "Layers.joint" s_Layers_joint f fd ∧ Binds K fd ["self", "layer", "place", "both"] []
  t_Layers_poly_joint : ∃ (f : Addr) (fd : FuncData), Cls K A.Layers ∧ Meth K A.Layers "poly_joint" f ∧ Fun K "poly_joint" "Layers.poly_joint" s_Layers_poly_joint f fd ∧ Binds K fd ["self", "layer", "place", "both"] []
  t_Layers_degree : ∃ (f : Addr) (fd : FuncData), Cls K A.Layers ∧ Meth K A.Layers "degree" f ∧ Fun K "degree" "Layers.degree" s_Layers_degree f fd ∧ Binds K fd ["self", "thrown"] []
  t_Layers_coins : ∃ (f : Addr) (fd : FuncData), Cls K A.Layers ∧ Meth K A.Layers "coins" f ∧ Fun K "coins" "Layers.coins" s_Layers_coins f fd ∧ Binds K fd ["self", "thrown"] []
  t_Layers_claims : ∃ (f : Addr) (fd : FuncData), Cls K A.Layers ∧ Meth K A.Layers "claims" f ∧ Fun K "claims" "Layers.claims" s_Layers_claims f fd ∧ Binds K fd ["self", "thrown", "message"] []
  t_Layers_truth : ∃ (f : Addr) (fd : FuncData), Cls K A.Layers ∧ Meth K A.Layers "truth" f ∧ Fun K "truth" "Layers.truth" s_Layers_truth f fd ∧ Binds K fd ["self", "thrown"] []
  t_Layers_right : ∃ (f : Addr) (fd : FuncData), Cls K A.Layers ∧ Meth K A.Layers "right" f ∧ Fun K "right" "Layers.right" s_Layers_right f fd ∧ Binds K fd ["self", "thrown"] []
  t_Layers_ends : ∃ (f : Addr) (fd : FuncData), Cls K A.Layers ∧ Meth K A.Layers "ends" f ∧ Fun K "ends" "Layers.ends" s_Layers_ends f fd ∧ Binds K fd ["self", "thrown", "claim"] []
  f__wall : ∃ (a : Addr) (fd : FuncData), Fun K "_wall" "_wall" s__wall a fd ∧ mg "_wall" = some (.ref a) ∧ Binds K fd ["k"] []
  f_is_integer : ∃ (a : Addr) (fd : FuncData), Fun K "is_integer" "is_integer" s_is_integer a fd ∧ mg "is_integer" = some (.ref a) ∧ Binds K fd ["thing"] []
  f_is_list : ∃ (a : Addr) (fd : FuncData), Fun K "is_list" "is_list" s_is_list a fd ∧ mg "is_list" = some (.ref a) ∧ Binds K fd ["thing"] []
  f_first_odd : ∃ (a : Addr) (fd : FuncData), Fun K "first_odd" "first_odd" s_first_odd a fd ∧ mg "first_odd" = some (.ref a) ∧ Binds K fd ["things"] []
  f_check_prime : ∃ (a : Addr) (fd : FuncData), Fun K "check_prime" "check_prime" s_check_prime a fd ∧ mg "check_prime" = some (.ref a) ∧ Binds K fd ["prime"] []
  f_check_number : ∃ (a : Addr) (fd : FuncData), Fun K "check_number" "check_number" s_check_number a fd ∧ mg "check_number" = some (.ref a) ∧ Binds K fd ["number"] []
  f_is_coin : ∃ (a : Addr) (fd : FuncData), Fun K "is_coin" "is_coin" s_is_coin a fd ∧ mg "is_coin" = some (.ref a) ∧ Binds K fd ["thing"] []
  f_first_bad_coin : ∃ (a : Addr) (fd : FuncData), Fun K "first_bad_coin" "first_bad_coin" s_first_bad_coin a fd ∧ mg "first_bad_coin" = some (.ref a) ∧ Binds K fd ["prime", "thing"] []
  f_check_coins : ∃ (a : Addr) (fd : FuncData), Fun K "check_coins" "check_coins" s_check_coins a fd ∧ mg "check_coins" = some (.ref a) ∧ Binds K fd ["prime", "thing"] []
  f_is_gate : ∃ (a : Addr) (fd : FuncData), Fun K "is_gate" "is_gate" s_is_gate a fd ∧ mg "is_gate" = some (.ref a) ∧ Binds K fd ["thing", "cells"] []
  f_gate_row : ∃ (a : Addr) (fd : FuncData), Fun K "gate_row" "gate_row" s_gate_row a fd ∧ mg "gate_row" = some (.ref a) ∧ Binds K fd ["gates", "cells", "prime"] []
  f_folded : ∃ (a : Addr) (fd : FuncData), Fun K "folded" "folded" s_folded a fd ∧ mg "folded" = some (.ref a) ∧ Binds K fd ["numbers", "place", "prime"] []
  f_check_like : ∃ (a : Addr) (fd : FuncData), Fun K "check_like" "check_like" s_check_like a fd ∧ mg "check_like" = some (.ref a) ∧ Binds K fd ["one", "other"] []
  f_worth_at : ∃ (a : Addr) (fd : FuncData), Fun K "worth_at" "worth_at" s_worth_at a fd ∧ mg "worth_at" = some (.ref a) ∧ Binds K fd ["row", "number", "prime"] []
  f_folded_at : ∃ (a : Addr) (fd : FuncData), Fun K "folded_at" "folded_at" s_folded_at a fd ∧ mg "folded_at" = some (.ref a) ∧ Binds K fd ["one", "other", "place"] []
  f_check_thrown : ∃ (a : Addr) (fd : FuncData), Fun K "check_thrown" "check_thrown" s_check_thrown a fd ∧ mg "check_thrown" = some (.ref a) ∧ Binds K fd ["thrown", "most"] []
  f_at_corner : ∃ (a : Addr) (fd : FuncData), Fun K "at_corner" "at_corner" s_at_corner a fd ∧ mg "at_corner" = some (.ref a) ∧ Binds K fd ["index", "place", "prime"] []
  f_poly_at_corner : ∃ (a : Addr) (fd : FuncData), Fun K "poly_at_corner" "poly_at_corner" s_poly_at_corner a fd ∧ mg "poly_at_corner" = some (.ref a) ∧ Binds K fd ["index", "place", "prime"] []
  f_poly_folded : ∃ (a : Addr) (fd : FuncData), Fun K "poly_folded" "poly_folded" s_poly_folded a fd ∧ mg "poly_folded" = some (.ref a) ∧ Binds K fd ["numbers", "place", "prime"] []
  f_all_corners : ∃ (a : Addr) (fd : FuncData), Fun K "all_corners" "all_corners" s_all_corners a fd ∧ mg "all_corners" = some (.ref a) ∧ Binds K fd ["many"] []
  f__law_g_lot : ∃ (a : Addr) (fd : FuncData), Fun K "_law_g_lot" "_law_g_lot" s__law_g_lot a fd ∧ mg "_law_g_lot" = some (.ref a) ∧ Binds K fd ["_law_stream", "_law_prime", "_law_most"] []
  f__law_l_gates : ∃ (a : Addr) (fd : FuncData), Fun K "_law_l_gates" "_law_l_gates" s__law_l_gates a fd ∧ mg "_law_l_gates" = some (.ref a) ∧ Binds K fd ["_law_stream", "_law_many", "_law_cells"] []
  f__law_l_plan : ∃ (a : Addr) (fd : FuncData), Fun K "_law_l_plan" "_law_l_plan" s__law_l_plan a fd ∧ mg "_law_l_plan" = some (.ref a) ∧ Binds K fd ["_law_stream", "_law_prime", "_law_deep", "_law_sizes"] []
  f__law_start : ∃ (a : Addr) (fd : FuncData), Fun K "_law_start" "_law_start" s__law_start a fd ∧ mg "_law_start" = some (.ref a) ∧ Binds K fd ["_law_script"] []
  f__law_draw : ∃ (a : Addr) (fd : FuncData), Fun K "_law_draw" "_law_draw" s__law_draw a fd ∧ mg "_law_draw" = some (.ref a) ∧ Binds K fd ["_law_stream", "_law_many"] []
  f__law_pick : ∃ (a : Addr) (fd : FuncData), Fun K "_law_pick" "_law_pick" s__law_pick a fd ∧ mg "_law_pick" = some (.ref a) ∧ Binds K fd ["_law_stream", "_law_some"] []
  f__law_mixed : ∃ (a : Addr) (fd : FuncData), Fun K "_law_mixed" "_law_mixed" s__law_mixed a fd ∧ mg "_law_mixed" = some (.ref a) ∧ Binds K fd ["_law_stream", "_law_some"] []
  f__law_same : ∃ (a : Addr) (fd : FuncData), Fun K "_law_same" "_law_same" s__law_same a fd ∧ mg "_law_same" = some (.ref a) ∧ Binds K fd ["_law_found", "_law_due"] []
  f__law_frozen : ∃ (a : Addr) (fd : FuncData), Fun K "_law_frozen" "_law_frozen" s__law_frozen a fd ∧ mg "_law_frozen" = some (.ref a) ∧ Binds K fd ["_law_thing"] []
  f__law_tried : ∃ (a : Addr) (fd : FuncData), Fun K "_law_tried" "_law_tried" s__law_tried a fd ∧ mg "_law_tried" = some (.ref a) ∧ Binds K fd ["_law_ask"] []
  f__law_coins_refused : ∃ (a : Addr) (fd : FuncData), Fun K "_law_coins_refused" "_law_coins_refused" s__law_coins_refused a fd ∧ mg "_law_coins_refused" = some (.ref a) ∧ Binds K fd ["_law_stream", "_law_net", "_law_place"] []
  f__law_thrown_refused : ∃ (a : Addr) (fd : FuncData), Fun K "_law_thrown_refused" "_law_thrown_refused" s__law_thrown_refused a fd ∧ mg "_law_thrown_refused" = some (.ref a) ∧ Binds K fd ["_law_talk", "_law_many", "_law_thrown"] []
  f_law : ∃ (a : Addr) (fd : FuncData), Fun K "law" "law" s_law a fd ∧ mg "law" = some (.ref a) ∧ Binds K fd ["_law_script"] []
  z_all : mg "all" = none
  z_any : mg "any" = none
  z_bool : mg "bool" = none
  z_dict : mg "dict" = none
  z_enumerate : mg "enumerate" = none
  z_int : mg "int" = none
  z_isinstance : mg "isinstance" = none
  z_len : mg "len" = none
  z_list : mg "list" = none
  z_max : mg "max" = none
  z_min : mg "min" = none
  z_range : mg "range" = none
  z_str : mg "str" = none
  z_sum : mg "sum" = none
  z_tuple : mg "tuple" = none
  z_zip : mg "zip" = none
  v_MOST_PRIME : ∃ u, mg "MOST_PRIME" = some u ∧ RelV (.int 101) u
  v_BITS : mg "BITS" = some (.ref A.BITS) ∧ DL.ItK K A.BITS [(1, 0), (2, 1), (4, 2)]
  c_law : ∀ (a : Addr) (oc : Value) (od : Option Addr) (fd : FuncData) (osl : Array (Option Value)) (cc : Addr), mg "_law_coins_refused" = some (.ref a) → K.lookup a = some ⟨oc, od, .func fd, osl⟩ → fd.code = .ref cc → cc = A.cL
  c_law2 : ∀ (a : Addr) (oc : Value) (od : Option Addr) (fd : FuncData) (osl : Array (Option Value)) (cc : Addr), mg "_law_thrown_refused" = some (.ref a) → K.lookup a = some ⟨oc, od, .func fd, osl⟩ → fd.code = .ref cc → cc = A.cL2
  c_law3 : ∀ (a : Addr) (oc : Value) (od : Option Addr) (fd : FuncData) (osl : Array (Option Value)) (cc : Addr), mg "law" = some (.ref a) → K.lookup a = some ⟨oc, od, .func fd, osl⟩ → fd.code = .ref cc → cc = A.cL3
  t_ne : (A.tL ≠ A.tL2 ∧ A.tL ≠ A.tL3) ∧ A.tL2 ≠ A.tL3
section
variable {P : Program} {w : World} {K : PySem.W.Frag} {mg : Str → Option Value} {base : Heap} {A : Ad}
local macro_rules | `(tactic| walk_at "s0") => `(tactic| with_reducible first
  | refine ws_seq ?_ | refine ws_next ?_ | refine ws_ret ?_ | refine ws_retN ?_ | refine ws_if ?_ | refine ws_asg ?_ | refine ws_drop ?_ | refine ws_par ?_ | refine ws_break ?_ | refine ws_cont ?_
  | refine we_var rfl ?_ | refine we_int ?_ | refine we_non ?_ | refine we_bl ?_ | refine we_str ?_ | refine we_ty ?_ | refine we_dnew ?_ | refine we_op ?_ | refine we_un ?_
  | refine we_and ?_ | refine we_or ?_ | refine we_not ?_ | refine we_if ?_ | refine we_chain ?_ | refine we_cb ?_ | refine we_tup ?_ | refine we_lst ?_
  | refine wl_cons ?_ | refine wl_nil ?_ | refine wt_B ?_ | refine wt_test ?_ | refine wt_and ?_ | refine wt_or ?_ | refine wt_not ?_ | refine wt_yes ?_
  | refine wi_tup ?_ | refine wi_list ?_ | refine wg_tup rfl ?_ | refine wgs_cons ?_ | refine wgs_nil ?_
  | refine rd_add_int ?_ | refine rd_sub ?_ | refine rd_lt ?_ | refine rd_le ?_ | refine rd_gt ?_ | refine rd_ge ?_ | refine rd_eq_int ?_ | refine rd_ne_int ?_ | refine rd_eq_str ?_ | refine rd_ne_str ?_ | refine rd_eq_bl ?_ | refine rd_ne_bl ?_ | refine rd_is ?_ | refine rd_is_bl ?_ | refine rd_isnot ?_ | refine ru_neg ?_
  | refine rc_int ?_ | refine rc_abs ?_ | refine rc_anyF ?_ | refine rc_allF ?_
  | refine brT ?_ | refine brF ?_ | refine brT' ?_ | refine brF' ?_
  | refine ⟨_, rfl, ?_⟩)
set_option hygiene false in
local macro_rules | `(tactic| walk_at "s1") => `(tactic| first
  | refine we_isiLT ?_ | refine we_isiILT ?_ | refine wi_seqV (by rfl) (by rfl) ?_ | walk_at "s0" | refine ⟨true, by rfl, ?_⟩ | refine ⟨false, by rfl, ?_⟩ | refine we_ref ?_ | refine we_fld1 ?_ | refine ⟨_, _, _, _, rfl, T.n_Gates_prime, by rfl, ?_⟩ | refine ⟨_, _, _, _, rfl, T.n_Gates_rows, by rfl, ?_⟩ | refine ⟨_, _, _, _, rfl, T.n_Gates_worths, by rfl, ?_⟩ | refine ⟨_, _, _, _, rfl, T.n_Poly_prime, by rfl, ?_⟩ | refine ⟨_, _, _, _, rfl, T.n_Poly_row, by rfl, ?_⟩ | refine ⟨_, _, _, _, rfl, T.n_Layers_net, by rfl, ?_⟩ | refine ⟨_, _, _, _, rfl, T.n_Layers_prime, by rfl, ?_⟩ | refine ⟨_, _, _, _, rfl, T.n_Layers_begin, by rfl, ?_⟩ | refine ⟨_, _, _, _, rfl, T.n_Layers_lot, by rfl, ?_⟩ | refine ⟨_, _, _, _, rfl, T.n_Layers_sizes, by rfl, ?_⟩ | refine rc_isiB (r := true) (by rfl) ?_ | refine rc_isiO T.k_Gates ?_ | refine rc_isiN T.k_Gates (by rfl) ?_ | refine rc_isiO T.k_Poly ?_ | refine rc_isiN T.k_Poly (by rfl) ?_ | refine rc_isiO T.k_Layers ?_ | refine rc_isiN T.k_Layers (by rfl) ?_ | refine we_callF (by assumption) ?_ | refine we_callF (X := fun _ _ _ _ => False) xok0 ?_ | refine we_callFl (by assumption) ?_ | refine we_callFl (X := fun _ _ _ _ => False) xok0 ?_ | refine we_makeFl (by assumption) ?_ | refine we_makeFl (X := fun _ _ _ _ => False) xok0 ?_ | refine we_makeF (by assumption) ?_ | refine we_makeF (X := fun _ _ _ _ => False) xok0 ?_ | refine DX.ws_rs (by assumption) ?_ | refine wt_test ?_ | refine co_ret rfl (by rfl) ?_ | refine wg_nm (by rfl) ?_ | refine parB (by rfl) (by rfl) ?_ | refine szB (by rfl) ?_ | refine szL (by rfl) ?_ | refine brT2 (by rfl) ?_ | refine brF2 (by rfl) ?_ | refine brT3 (by rfl) ?_ | refine brF3 (by rfl) ?_ | refine rc_isiB (r := false) (by rfl) ?_)
def isIntD : D → Bool
  | .int _ => true
  | _ => false
def gIsInt : List D → Option Out
  | [d] => if (tyN d).isSome then some (.ret (.bl (isIntD d))) else none
  | _ => none
theorem ok_is_integer (T : Tx P K mg A) : CalX P w K mg base 1 "is_integer" (SpS K 1 (spcF gIsInt)) := by
  obtain ⟨a, fd, F, m, bi⟩ := T.f_is_integer
  refine ⟨a, fd, _, fnS F sc_is_integer rfl (fun cdv A outer sh H E hr => ⟨_, (pss_one (ps_ret (pe_and (pe_callB (DK.isi (K := K)) (by rfl) T.z_isinstance (by decide +kernel) (pa_cons (pv 0) (pa_cons (pe_tyn (n := "int") (by rfl) T.z_int (by decide +kernel)) pa_nil))) (pe_one (pe_not (pe_callB (DK.isi (K := K)) (by rfl) T.z_isinstance (by decide +kernel) (pa_cons (pv 0) (pa_cons (pe_tyn (n := "bool") (by rfl) T.z_bool (by decide +kernel)) pa_nil)))))))), fun R k0 ds b hp hl hE => ?_⟩), m, F.kp, bi⟩
  obtain ⟨o, ho⟩ := hp
  obtain ⟨d, rfl⟩ : ∃ d, ds = [d] := by
    match ds, hl with
    | [d], _ => exact ⟨d, rfl⟩
  cases d <;> cases ho
  all_goals
    repeat (walk_at "s1")
    exact ⟨rfl, rfl⟩
def isPrm (p : Int) : Bool := decide (2 ≤ p) && (decide (p ≤ 101) && !([2, 3, 5, 7].any fun q => decide (q < p) && decide (p % q = 0)))
def ltI (p : Int) : D → Bool
  | .int q => decide (q < p)
  | _ => false
def modI (p : Int) : D → Bool
  | .int q => decide (p % q = 0)
  | _ => false
def gPrime (A : Ad) : List D → Option Out
  | [d] => if (tyN d).isSome then some (match d with | .int p => if isPrm p then .ret .non else .exc A.BadPrime ["prime"] [d] | _ => .exc A.BadPrime ["prime"] [d]) else none
  | _ => none
theorem ok_check_prime (T : Tx P K mg A) : CalX P w K mg base 2 "check_prime" (SpS K 1 (spcF (gPrime A))) := by
  have c_is_integer := @ok_is_integer P w K mg base A T
  obtain ⟨a, fd, F, m, bi⟩ := T.f_check_prime
  refine ⟨a, fd, _, fnS F sc_check_prime rfl (fun cdv A' outer sh H E hr => ⟨_, (pss_cons (ps_if (PW.pt (pw_or (pt_not (pt_val (pe_cx c_is_integer hr (by omega) (by rfl) (passes_call (takes_of rfl rfl rfl rfl) (fun _ _ _ _ z => z)) (pa_cons (pv 0) pa_nil)))) (pw_or1 (pt_not (pt_chain op_leK op_leK pe_int (pv 0) (C8.pe_gc (by rfl) T.v_MOST_PRIME))))))
  (pss_one (DX.ps_rs (takes_of rfl rfl rfl rfl) T.x_BadPrime (by decide) (by decide) hr (pa_cons (pv 0) pa_nil)))
  pss_nil)
  (pss_one (ps_if (pt_val (pe_callB (DK.any (K := K)) (by rfl) T.z_any (by decide +kernel) (pa_cons (pe_lc (own := [("part", 1)]) (g := (gName 1)) rfl sc_check_prime.nd (DK.pi_tup (K := K) (pe_tup (pa_cons pe_int (pa_cons pe_int (pa_cons pe_int (pa_cons pe_int pa_nil)))))) (blkOk_by (own := [("part", 1)]) (N := n_check_prime) (sc := (defScope s_check_prime)) (by first | decide +kernel | kernel_rfl)) (fun _ _ _ _ _ => (pg_name (i := 1) sc_check_prime.nd rfl (by first | exact .inl rfl | exact .inr rfl))) (fun _ _ _ _ _ => (pts_one (pt_cmpR op_ltK (pv 1) (pv 0) (nomark _)))) (fun _ _ _ _ _ => (pe_cmpR (DK.op_eq (K := K) (hr.units)) (pe_op op_modK (pv 0) (pv 1)) pe_int (nomark _)))) pa_nil)))
  (pss_one (DX.ps_rs (takes_of rfl rfl rfl rfl) T.x_BadPrime (by decide) (by decide) hr (pa_cons (pv 0) pa_nil)))
  pss_nil))), fun R k0 ds b hp hl hE => ?_⟩), m, F.kp, bi⟩
  obtain ⟨o, ho⟩ := hp
  obtain ⟨d, rfl⟩ : ∃ d, ds = [d] := by
    match ds, hl with
    | [d], _ => exact ⟨d, rfl⟩
  have hx := xok_def hE
  have hX := xokW hx
  have bad : ∀ {C : Addr} {ns : List Str} {fs : List D}, gPrime A [d] = some (.exc C ns fs) → (spcF (gPrime A)).exc R [d] b C ns fs b := fun e => ⟨e, rfl⟩
  cases d <;> cases ho
  case int p =>
    have nb : isPrm p = false → gPrime A [.int p] = some (.exc A.BadPrime ["prime"] [.int p]) := fun e => by simp [gPrime, tyN, e]
    have ok : isPrm p = true → gPrime A [.int p] = some (.ret .non) := fun e => by simp [gPrime, tyN, e]
    repeat (walk_at "s1")
    refine brD' (fun h1 => ?_) (fun h1 => ?_)
    · repeat (walk_at "s1")
      refine brN (fun h2 => ?_) (fun h2 => ?_)
      · repeat (walk_at "s1")
        exact ⟨rfl, bad (nb (by simp [isPrm, h2]))⟩
      · repeat (walk_at "s1")
        refine we_lcF (kg_name (by decide)) ?_
        repeat (walk_at "s1")
        refine ⟨ltI p, fun d => .bl (modI p d), szL (by rfl) ⟨fun d hd o acc => ?_, ?_⟩⟩
        · simp only [List.mem_cons, List.not_mem_nil, or_false] at hd
          rcases hd with rfl | rfl | rfl | rfl
          all_goals
            repeat (walk_at "s1")
            refine ⟨rfl, fun _ => ?_, fun _ => ⟨rfl, rfl⟩⟩
            repeat (walk_at "s1")
            refine rd_mod (by decide) ?_
            repeat (walk_at "s1")
            exact ⟨rfl, rfl, rfl⟩
        · repeat (walk_at "s1")
          refine br (fun e => ?_) (fun e => ?_)
          · repeat (walk_at "s1")
            refine ⟨rfl, bad (nb ?_)⟩
            simp [isPrm, ltI, modI] at e ⊢
            omega
          · repeat (walk_at "s1")
            exact ⟨ok (by simp [isPrm, h1, h2, ltI, modI] at e ⊢; omega), rfl⟩
    · repeat (walk_at "s1")
      exact ⟨rfl, bad (nb (by simp [isPrm, h1]))⟩
  all_goals
    repeat (walk_at "s1")
    exact ⟨rfl, bad rfl⟩
def isLst : D → Bool
  | .lst _ => true
  | .tup _ => true
  | _ => false
def gIsList : List D → Option Out
  | [d] => if (tyN d).isSome then some (.ret (.bl (isLst d))) else none
  | _ => none
theorem ok_is_list (T : Tx P K mg A) : CalX P w K mg base 1 "is_list" (spOr (SpS K 1 (spcF gIsList)) (SpR1 K fun _ => .bl true)) := by
  obtain ⟨a, fd, F, m, bi⟩ := T.f_is_list
  refine ⟨a, fd, _, fn_or (fnS F sc_is_list rfl (fun cdv A outer sh H E hr => ⟨_, (pss_one (ps_ret (pe_callB (DK.isiT (K := K)) (by rfl) T.z_isinstance (by decide +kernel) (pa_cons (pv 0) (pa_cons (pe_tup (pa_cons (pe_tyn (n := "list") (by rfl) T.z_list (by decide +kernel)) (pa_cons (pe_tyn (n := "tuple") (by rfl) T.z_tuple (by decide +kernel)) pa_nil))) pa_nil))))), fun R k0 ds b hp hl hE => ?_⟩))
    (fnR1 F sc_is_list rfl (fun cdv A outer sh H E hr => ⟨_, (pss_one (ps_ret (pe_callB (DK.isiT (K := K)) (by rfl) T.z_isinstance (by decide +kernel) (pa_cons (pv 0) (pa_cons (pe_tup (pa_cons (pe_tyn (n := "list") (by rfl) T.z_list (by decide +kernel)) (pa_cons (pe_tyn (n := "tuple") (by rfl) T.z_tuple (by decide +kernel)) pa_nil))) pa_nil))))), fun k0 o xs r hl => ?_⟩)), m, F.kp, bi⟩
  · obtain ⟨o, ho⟩ := hp
    obtain ⟨d, rfl⟩ : ∃ d, ds = [d] := by
      match ds, hl with
      | [d], _ => exact ⟨d, rfl⟩
    cases d <;> cases ho
    all_goals
      repeat (walk_at "s1")
      exact ⟨rfl, rfl⟩
  · refine ws_ret (we_isiR (we_var rfl ⟨o, xs, rfl, r, rfl⟩))
/-- the first place where no int stands -/
def oddI : List D → Nat → Option Nat
  | [], _ => none
  | d :: l, i => if isIntD d = true then oddI l (i + 1) else some i
def oddO (o : Option Nat) : D := match o with
  | none => .non
  | some i => .int (i : Nat)
def typed (l : List D) : Bool := l.all fun d => (tyN d).isSome
def oddD : D → D
  | .lst l => oddO (oddI l 0)
  | .tup l => oddO (oddI l 0)
  | _ => .int 0
def okO : D → Bool
  | .lst l => decide (l.length ≤ 1000) && typed l
  | .tup l => decide (l.length ≤ 1000) && typed l
  | d => (tyN d).isSome
def gOdd : List D → Option Out
  | [d] => if okO d = true then some (.ret (oddD d)) else none
  | _ => none
theorem oddI_step {l : List D} {i : Nat} {d : D} (h : l[i]? = some d) : oddI (l.drop i) i = if isIntD d = true then oddI (l.drop (i + 1)) (i + 1) else some i := by
  have hl : i < l.length := (List.getElem?_eq_some_iff.mp h).1
  rw [List.drop_eq_getElem_cons hl]
  have e : l[i] = d := Option.some.inj (by rw [← List.getElem?_eq_getElem hl]; exact h)
  rw [e]
  rfl
theorem oddI_ints : ∀ (xs : List Int) (i : Nat), oddI (xs.map D.int) i = none
  | [], _ => rfl
  | x :: xs, i => by
    show (if isIntD (.int x) = true then oddI (xs.map D.int) (i + 1) else some i) = none
    exact (if_pos (show isIntD (.int x) = true from rfl)).trans (oddI_ints xs (i + 1))
theorem ints_of : ∀ {l : List D} {i : Nat}, oddI l i = none → ∃ xs : List Int, l = xs.map D.int
  | [], _, _ => ⟨[], rfl⟩
  | d :: l, i, h => by
    have h : (if isIntD d = true then oddI l (i + 1) else some i) = none := h
    by_cases hd : isIntD d = true
    · rw [if_pos hd] at h
      obtain ⟨xs, rfl⟩ := ints_of h
      cases d <;> first | (cases hd; done) | exact ⟨_ :: xs, rfl⟩
    · rw [if_neg hd] at h
      cases h
theorem ok_first_odd (T : Tx P K mg A) : CalX P w K mg base 2 "first_odd" (spOr (SpS K 1 (spcF gOdd)) (SpR1 K fun _ => .non)) := by
  have c_is_list := @ok_is_list P w K mg base A T
  have c_is_integer := @ok_is_integer P w K mg base A T
  obtain ⟨a, fd, F, m, bi⟩ := T.f_first_odd
  refine ⟨a, fd, _, fn_or (fnS F sc_first_odd rfl (fun cdv A outer sh H E hr => ⟨_, (pss_cons (ps_if (pt_not (pt_val (pe_cx c_is_list hr (by omega) (by rfl) (passes_call (takes_of rfl rfl rfl rfl) (fun _ _ _ _ z => z)) (pa_cons (pv 0) pa_nil))))
  (pss_one (ps_ret pe_int))
  pss_nil)
  (pss_cons (ps_for (passes_of rfl) rfl (DK.pi_enum2 (K := K) (by rfl) T.z_enumerate (pa_cons (pv 0) pa_nil)) (DK.pg_tup (K := K) rfl (pgs_cons (pg_name (i := 1) sc_first_odd.nd rfl (by first | exact .inl rfl | exact .inr rfl)) (pgs_cons (pg_name (i := 2) sc_first_odd.nd rfl (by first | exact .inl rfl | exact .inr rfl)) pgs_nil)))
  (pss_one (ps_if (pt_not (pt_val (pe_cx c_is_integer hr (by omega) (by rfl) (passes_call (takes_of rfl rfl rfl rfl) (fun _ _ _ _ z => z)) (pa_cons (pv 2) pa_nil))))
  (pss_one (ps_ret (pv 1)))
  pss_nil)))
  (pss_one (ps_ret pe_non)))), fun R k0 ds b hp hl hE => ?_⟩))
    (fnR1 F sc_first_odd rfl (fun cdv A outer sh H E hr => ⟨_, (pss_cons (ps_if (pt_not (pt_val (pe_cx c_is_list hr (by omega) (by rfl) (passes_call (takes_of rfl rfl rfl rfl) (fun _ _ _ _ z => z)) (pa_cons (pv 0) pa_nil))))
  (pss_one (ps_ret pe_int))
  pss_nil)
  (pss_cons (ps_for (passes_of rfl) rfl (DK.pi_enum2 (K := K) (by rfl) T.z_enumerate (pa_cons (pv 0) pa_nil)) (DK.pg_tup (K := K) rfl (pgs_cons (pg_name (i := 1) sc_first_odd.nd rfl (by first | exact .inl rfl | exact .inr rfl)) (pgs_cons (pg_name (i := 2) sc_first_odd.nd rfl (by first | exact .inl rfl | exact .inr rfl)) pgs_nil)))
  (pss_one (ps_if (pt_not (pt_val (pe_cx c_is_integer hr (by omega) (by rfl) (passes_call (takes_of rfl rfl rfl rfl) (fun _ _ _ _ z => z)) (pa_cons (pv 2) pa_nil))))
  (pss_one (ps_ret (pv 1)))
  pss_nil)))
  (pss_one (ps_ret pe_non)))), fun k0 o xs r hl => ?_⟩)), m, F.kp, bi⟩
  · obtain ⟨o, ho⟩ := hp
    obtain ⟨d, rfl⟩ : ∃ d, ds = [d] := by
      match ds, hl with
      | [d], _ => exact ⟨d, rfl⟩
    have ek : okO d = true := by
      by_cases h : okO d = true
      · exact h
      · have e : gOdd [d] = none := if_neg h
        rw [e] at ho
        cases ho
    have eg : gOdd [d] = some (.ret (oddD d)) := if_pos ek
    have loop : ∀ (l : List D), l.length ≤ 1000 → typed l = true → gOdd [d] = some (.ret (oddO (oddI l 0))) → ∀ Ψ : Psi, (∀ d' ς, gOdd [d] = some (.ret d') ∧ ς.b = b → Ψ.rt d' ς) → (∀ ς : Sta, gOdd [d] = some (.ret .non) ∧ ς.b = b → Ψ.nx ς) →
        ∃ Jv : Nat → Sta → Prop, Jv 0 { δ := startD n_first_odd [d], b := b } ∧ (∀ i e ς2, (enumD l)[i]? = some e → Jv i ς2 →
          WG ⟨K, R, k0, H, true, fun _ => none⟩ (gTup K 2 (gCons (gName 1) (gCons (gName 2) gNil))) e ς2 fun ς3 => WS ⟨K, R, k0, H, true, fun _ => none⟩ (tIfS (tNot (tB (tCall (SpS K 1 (spcF gIsInt)) [] E (tCons (tVar 2) tNil)))) (tRet (tVar 1)) tNext) ς3
            { nx := Jv (i + 1), ct := Jv (i + 1), bk := Ψ.nx, rt := Ψ.rt }) ∧ ∀ ς2, Jv (enumD l).length ς2 → Ψ.nx ς2 := fun l l1 l2 el Ψ hΨ hN => by
      refine ⟨fun i ς => ∃ x1 x2, ς = { δ := [some d, x1, x2], b := b } ∧ oddI (l.drop i) i = oddI l 0, ⟨none, none, rfl, rfl⟩, ?_, ?_⟩
      · rintro i e ς hi ⟨x1, x2, rfl, ej⟩
        obtain ⟨y, hy, rfl⟩ := enumD_get hi
        have st := oddI_step hy
        have ty : (tyN y).isSome = true := List.all_eq_true.mp l2 y (List.mem_of_getElem? hy)
        refine wg_tup rfl ?_
        repeat (walk_at "s1")
        dsimp only [List.set]
        cases hd : isIntD y with
        | true =>
          have e1 : gIsInt [y] = some (.ret (.bl true)) := by
            show (if (tyN y).isSome = true then some (Out.ret (.bl (isIntD y))) else none) = _
            rw [if_pos ty, hd]
          refine co_ret rfl e1 ?_
          repeat (walk_at "s1")
          exact ⟨_, _, rfl, by rw [← ej, st, if_pos hd]⟩
        | false =>
          have e1 : gIsInt [y] = some (.ret (.bl false)) := by
            show (if (tyN y).isSome = true then some (Out.ret (.bl (isIntD y))) else none) = _
            rw [if_pos ty, hd]
          refine co_ret rfl e1 ?_
          repeat (walk_at "s1")
          refine hΨ _ _ ⟨?_, rfl⟩
          rw [el, ← ej, st, if_neg (by rw [hd]; exact Bool.false_ne_true)]
          rfl
      · rintro ς ⟨x1, x2, rfl, ej⟩
        refine hN _ ⟨?_, rfl⟩
        have z : l.drop (enumD l).length = [] := by
          unfold enumD
          rw [List.length_mapIdx]
          exact List.drop_length
        rw [z] at ej
        rw [el, ← ej]
        rfl
    cases d
    case lst l =>
      obtain ⟨l1, l2⟩ := Bool.and_eq_true_iff.mp ek
      repeat (walk_at "s1")
      refine ws_for (wi_enumL ?_)
      repeat (walk_at "s1")
      refine loop l (of_decide_eq_true l1) l2 eg _ (fun d' ς z => z) fun ς z => ?_
      repeat (walk_at "s1")
      exact z
    case tup l =>
      obtain ⟨l1, l2⟩ := Bool.and_eq_true_iff.mp ek
      repeat (walk_at "s1")
      refine ws_for (wi_enumT ?_)
      repeat (walk_at "s1")
      refine loop l (of_decide_eq_true l1) l2 eg _ (fun d' ς z => z) fun ς z => ?_
      repeat (walk_at "s1")
      exact z
    all_goals first
      | (cases ek; done)
      | (repeat (walk_at "s1")
         exact ⟨eg, rfl⟩)
  · refine ws_seq (ws_if (wt_not (wt_B ?_)))
    refine we_callR1 (wl_cons (we_var rfl (wl_nil ⟨o, xs, rfl, .inl r, hl, ?_⟩)))
    repeat (walk_at "s1")
    refine ws_for (wi_enumR (wl_cons (we_var rfl (wl_nil ⟨o, xs, rfl, r, ?_⟩))))
    refine ⟨fun i ς => ∃ x1 x2, ς = { δ := [some (.ref o), x1, x2], b := 0 }, ⟨none, none, rfl⟩, ?_, ?_⟩
    · rintro i d ς hi ⟨x1, x2, rfl⟩
      obtain ⟨y, hy, rfl⟩ := enumD_get hi
      obtain ⟨n, rfl, _⟩ := get_ints hy
      refine wg_tup rfl ?_
      repeat (walk_at "s1")
      exact ⟨_, _, rfl⟩
    · rintro ς ⟨x1, x2, rfl⟩
      repeat (walk_at "s1")
      exact rfl
end
end K54

set_option Elab.async false
set_option linter.all false
set_option maxRecDepth 100000
set_option maxHeartbeats 4000000
namespace K54
open PySem PySem.Spec PyProof.Rows L2 DL
def x_BadPrime : DY.XD := ⟨"BadPrime", ["prime"], "BadPrime.__init__", defArgs s_BadPrime___init__, defBody s_BadPrime___init__, defScope s_BadPrime___init__⟩
theorem xs_BadPrime : DY.XShape x_BadPrime := ⟨⟨⟨_, _, _, _, _, _, _, _, _, rfl, (.cons .nil), rfl⟩, rfl, rfl, rfl, by decide +kernel, rfl, rfl, rfl, fun f hf => by
  simp only [x_BadPrime, List.mem_cons, List.not_mem_nil, or_false] at hf
  rcases hf with rfl <;> exact ⟨rfl, by decide⟩, ⟨_, rfl, rfl⟩, by decide⟩,
  fun _ _ _ _ _ _ us hl => match us, hl with | [_, _], _ => rfl⟩
def x_BadNumber : DY.XD := ⟨"BadNumber", ["number"], "BadNumber.__init__", defArgs s_BadNumber___init__, defBody s_BadNumber___init__, defScope s_BadNumber___init__⟩
theorem xs_BadNumber : DY.XShape x_BadNumber := ⟨⟨⟨_, _, _, _, _, _, _, _, _, rfl, (.cons .nil), rfl⟩, rfl, rfl, rfl, by decide +kernel, rfl, rfl, rfl, fun f hf => by
  simp only [x_BadNumber, List.mem_cons, List.not_mem_nil, or_false] at hf
  rcases hf with rfl <;> exact ⟨rfl, by decide⟩, ⟨_, rfl, rfl⟩, by decide⟩,
  fun _ _ _ _ _ _ us hl => match us, hl with | [_, _], _ => rfl⟩
def x_BadCoin : DY.XD := ⟨"BadCoin", ["index"], "BadCoin.__init__", defArgs s_BadCoin___init__, defBody s_BadCoin___init__, defScope s_BadCoin___init__⟩
theorem xs_BadCoin : DY.XShape x_BadCoin := ⟨⟨⟨_, _, _, _, _, _, _, _, _, rfl, (.cons .nil), rfl⟩, rfl, rfl, rfl, by decide +kernel, rfl, rfl, rfl, fun f hf => by
  simp only [x_BadCoin, List.mem_cons, List.not_mem_nil, or_false] at hf
  rcases hf with rfl <;> exact ⟨rfl, by decide⟩, ⟨_, rfl, rfl⟩, by decide⟩,
  fun _ _ _ _ _ _ us hl => match us, hl with | [_, _], _ => rfl⟩
def x_BadLayer : DY.XD := ⟨"BadLayer", ["index"], "BadLayer.__init__", defArgs s_BadLayer___init__, defBody s_BadLayer___init__, defScope s_BadLayer___init__⟩
theorem xs_BadLayer : DY.XShape x_BadLayer := ⟨⟨⟨_, _, _, _, _, _, _, _, _, rfl, (.cons .nil), rfl⟩, rfl, rfl, rfl, by decide +kernel, rfl, rfl, rfl, fun f hf => by
  simp only [x_BadLayer, List.mem_cons, List.not_mem_nil, or_false] at hf
  rcases hf with rfl <;> exact ⟨rfl, by decide⟩, ⟨_, rfl, rfl⟩, by decide⟩,
  fun _ _ _ _ _ _ us hl => match us, hl with | [_, _], _ => rfl⟩
def x_BadInputs : DY.XD := ⟨"BadInputs", ["inputs"], "BadInputs.__init__", defArgs s_BadInputs___init__, defBody s_BadInputs___init__, defScope s_BadInputs___init__⟩
theorem xs_BadInputs : DY.XShape x_BadInputs := ⟨⟨⟨_, _, _, _, _, _, _, _, _, rfl, (.cons .nil), rfl⟩, rfl, rfl, rfl, by decide +kernel, rfl, rfl, rfl, fun f hf => by
  simp only [x_BadInputs, List.mem_cons, List.not_mem_nil, or_false] at hf
  rcases hf with rfl <;> exact ⟨rfl, by decide⟩, ⟨_, rfl, rfl⟩, by decide⟩,
  fun _ _ _ _ _ _ us hl => match us, hl with | [_, _], _ => rfl⟩
def x_BadGate : DY.XD := ⟨"BadGate", ["layer", "index"], "BadGate.__init__", defArgs s_BadGate___init__, defBody s_BadGate___init__, defScope s_BadGate___init__⟩
theorem xs_BadGate : DY.XShape x_BadGate := ⟨⟨⟨_, _, _, _, _, _, _, _, _, rfl, (.cons (.cons .nil)), rfl⟩, rfl, rfl, rfl, by decide +kernel, rfl, rfl, rfl, fun f hf => by
  simp only [x_BadGate, List.mem_cons, List.not_mem_nil, or_false] at hf
  rcases hf with rfl | rfl <;> exact ⟨rfl, by decide⟩, ⟨_, rfl, rfl⟩, by decide⟩,
  fun _ _ _ _ _ _ us hl => match us, hl with | [_, _, _], _ => rfl⟩
def x_NoLayer : DY.XD := ⟨"NoLayer", ["layer"], "NoLayer.__init__", defArgs s_NoLayer___init__, defBody s_NoLayer___init__, defScope s_NoLayer___init__⟩
theorem xs_NoLayer : DY.XShape x_NoLayer := ⟨⟨⟨_, _, _, _, _, _, _, _, _, rfl, (.cons .nil), rfl⟩, rfl, rfl, rfl, by decide +kernel, rfl, rfl, rfl, fun f hf => by
  simp only [x_NoLayer, List.mem_cons, List.not_mem_nil, or_false] at hf
  rcases hf with rfl <;> exact ⟨rfl, by decide⟩, ⟨_, rfl, rfl⟩, by decide⟩,
  fun _ _ _ _ _ _ us hl => match us, hl with | [_, _], _ => rfl⟩
def x_BadPlace : DY.XD := ⟨"BadPlace", ["thing"], "BadPlace.__init__", defArgs s_BadPlace___init__, defBody s_BadPlace___init__, defScope s_BadPlace___init__⟩
theorem xs_BadPlace : DY.XShape x_BadPlace := ⟨⟨⟨_, _, _, _, _, _, _, _, _, rfl, (.cons .nil), rfl⟩, rfl, rfl, rfl, by decide +kernel, rfl, rfl, rfl, fun f hf => by
  simp only [x_BadPlace, List.mem_cons, List.not_mem_nil, or_false] at hf
  rcases hf with rfl <;> exact ⟨rfl, by decide⟩, ⟨_, rfl, rfl⟩, by decide⟩,
  fun _ _ _ _ _ _ us hl => match us, hl with | [_, _], _ => rfl⟩
def x_UnlikePrimes : DY.XD := ⟨"UnlikePrimes", [], "UnlikePrimes.__init__", defArgs s_UnlikePrimes___init__, defBody s_UnlikePrimes___init__, defScope s_UnlikePrimes___init__⟩
theorem xs_UnlikePrimes : DY.XShape x_UnlikePrimes := ⟨⟨⟨_, _, _, _, _, _, _, _, _, rfl, .nil, rfl⟩, rfl, rfl, rfl, by decide +kernel, rfl, rfl, rfl, nofun, ⟨_, rfl, rfl⟩, by decide⟩,
  fun _ _ _ _ _ _ us hl => match us, hl with | [_], _ => rfl⟩
def x_BadNumbers : DY.XD := ⟨"BadNumbers", ["index"], "BadNumbers.__init__", defArgs s_BadNumbers___init__, defBody s_BadNumbers___init__, defScope s_BadNumbers___init__⟩
theorem xs_BadNumbers : DY.XShape x_BadNumbers := ⟨⟨⟨_, _, _, _, _, _, _, _, _, rfl, (.cons .nil), rfl⟩, rfl, rfl, rfl, by decide +kernel, rfl, rfl, rfl, fun f hf => by
  simp only [x_BadNumbers, List.mem_cons, List.not_mem_nil, or_false] at hf
  rcases hf with rfl <;> exact ⟨rfl, by decide⟩, ⟨_, rfl, rfl⟩, by decide⟩,
  fun _ _ _ _ _ _ us hl => match us, hl with | [_, _], _ => rfl⟩
def x_BadThrown : DY.XD := ⟨"BadThrown", ["index"], "BadThrown.__init__", defArgs s_BadThrown___init__, defBody s_BadThrown___init__, defScope s_BadThrown___init__⟩
theorem xs_BadThrown : DY.XShape x_BadThrown := ⟨⟨⟨_, _, _, _, _, _, _, _, _, rfl, (.cons .nil), rfl⟩, rfl, rfl, rfl, by decide +kernel, rfl, rfl, rfl, fun f hf => by
  simp only [x_BadThrown, List.mem_cons, List.not_mem_nil, or_false] at hf
  rcases hf with rfl <;> exact ⟨rfl, by decide⟩, ⟨_, rfl, rfl⟩, by decide⟩,
  fun _ _ _ _ _ _ us hl => match us, hl with | [_, _], _ => rfl⟩
def xds : List DY.XD := [x_BadPrime, x_BadNumber, x_BadCoin, x_BadLayer, x_BadInputs, x_BadGate, x_NoLayer, x_BadPlace, x_UnlikePrimes, x_BadNumbers, x_BadThrown]
def dd__wall : He.DefD := ⟨("_wall", none), "_wall", "_wall", defArgs s__wall, defBody s__wall, defScope s__wall, [], []⟩
def dd_is_integer : He.DefD := ⟨("is_integer", none), "is_integer", "is_integer", defArgs s_is_integer, defBody s_is_integer, defScope s_is_integer, [], []⟩
def dd_is_list : He.DefD := ⟨("is_list", none), "is_list", "is_list", defArgs s_is_list, defBody s_is_list, defScope s_is_list, [], []⟩
def dd_first_odd : He.DefD := ⟨("first_odd", none), "first_odd", "first_odd", defArgs s_first_odd, defBody s_first_odd, defScope s_first_odd, [], []⟩
def dd_check_prime : He.DefD := ⟨("check_prime", none), "check_prime", "check_prime", defArgs s_check_prime, defBody s_check_prime, defScope s_check_prime, [], []⟩
def dd_check_number : He.DefD := ⟨("check_number", none), "check_number", "check_number", defArgs s_check_number, defBody s_check_number, defScope s_check_number, [], []⟩
def dd_is_coin : He.DefD := ⟨("is_coin", none), "is_coin", "is_coin", defArgs s_is_coin, defBody s_is_coin, defScope s_is_coin, [], []⟩
def dd_first_bad_coin : He.DefD := ⟨("first_bad_coin", none), "first_bad_coin", "first_bad_coin", defArgs s_first_bad_coin, defBody s_first_bad_coin, defScope s_first_bad_coin, [], []⟩
def dd_check_coins : He.DefD := ⟨("check_coins", none), "check_coins", "check_coins", defArgs s_check_coins, defBody s_check_coins, defScope s_check_coins, [], []⟩
def dd_is_gate : He.DefD := ⟨("is_gate", none), "is_gate", "is_gate", defArgs s_is_gate, defBody s_is_gate, defScope s_is_gate, [], []⟩
def dd_gate_row : He.DefD := ⟨("gate_row", none), "gate_row", "gate_row", defArgs s_gate_row, defBody s_gate_row, defScope s_gate_row, [], []⟩
def dd_folded : He.DefD := ⟨("folded", none), "folded", "folded", defArgs s_folded, defBody s_folded, defScope s_folded, [], []⟩
def dd_check_like : He.DefD := ⟨("check_like", none), "check_like", "check_like", defArgs s_check_like, defBody s_check_like, defScope s_check_like, [], []⟩
def dd_worth_at : He.DefD := ⟨("worth_at", none), "worth_at", "worth_at", defArgs s_worth_at, defBody s_worth_at, defScope s_worth_at, [], []⟩
def dd_folded_at : He.DefD := ⟨("folded_at", none), "folded_at", "folded_at", defArgs s_folded_at, defBody s_folded_at, defScope s_folded_at, [], []⟩
def dd_check_thrown : He.DefD := ⟨("check_thrown", none), "check_thrown", "check_thrown", defArgs s_check_thrown, defBody s_check_thrown, defScope s_check_thrown, [], []⟩
def dd_at_corner : He.DefD := ⟨("at_corner", none), "at_corner", "at_corner", defArgs s_at_corner, defBody s_at_corner, defScope s_at_corner, [], []⟩
def dd_poly_at_corner : He.DefD := ⟨("poly_at_corner", none), "poly_at_corner", "poly_at_corner", defArgs s_poly_at_corner, defBody s_poly_at_corner, defScope s_poly_at_corner, [], []⟩
def dd_poly_folded : He.DefD := ⟨("poly_folded", none), "poly_folded", "poly_folded", defArgs s_poly_folded, defBody s_poly_folded, defScope s_poly_folded, [], []⟩
def dd_all_corners : He.DefD := ⟨("all_corners", none), "all_corners", "all_corners", defArgs s_all_corners, defBody s_all_corners, defScope s_all_corners, [], []⟩
def dd__law_g_lot : He.DefD := ⟨("_law_g_lot", none), "_law_g_lot", "_law_g_lot", defArgs s__law_g_lot, defBody s__law_g_lot, defScope s__law_g_lot, [], []⟩
def dd__law_l_gates : He.DefD := ⟨("_law_l_gates", none), "_law_l_gates", "_law_l_gates", defArgs s__law_l_gates, defBody s__law_l_gates, defScope s__law_l_gates, [], []⟩
def dd__law_l_plan : He.DefD := ⟨("_law_l_plan", none), "_law_l_plan", "_law_l_plan", defArgs s__law_l_plan, defBody s__law_l_plan, defScope s__law_l_plan, [], []⟩
def dd__law_start : He.DefD := ⟨("_law_start", none), "_law_start", "_law_start", defArgs s__law_start, defBody s__law_start, defScope s__law_start, [], []⟩
def dd__law_draw : He.DefD := ⟨("_law_draw", none), "_law_draw", "_law_draw", defArgs s__law_draw, defBody s__law_draw, defScope s__law_draw, [], []⟩
def dd__law_pick : He.DefD := ⟨("_law_pick", none), "_law_pick", "_law_pick", defArgs s__law_pick, defBody s__law_pick, defScope s__law_pick, [], []⟩
def dd__law_mixed : He.DefD := ⟨("_law_mixed", none), "_law_mixed", "_law_mixed", defArgs s__law_mixed, defBody s__law_mixed, defScope s__law_mixed, [], []⟩
def dd__law_same : He.DefD := ⟨("_law_same", none), "_law_same", "_law_same", defArgs s__law_same, defBody s__law_same, defScope s__law_same, [], []⟩
def dd__law_frozen : He.DefD := ⟨("_law_frozen", none), "_law_frozen", "_law_frozen", defArgs s__law_frozen, defBody s__law_frozen, defScope s__law_frozen, [], []⟩
def dd__law_tried : He.DefD := ⟨("_law_tried", none), "_law_tried", "_law_tried", defArgs s__law_tried, defBody s__law_tried, defScope s__law_tried, [], []⟩
def dd__law_coins_refused : He.DefD := ⟨("_law_coins_refused", none), "_law_coins_refused", "_law_coins_refused", defArgs s__law_coins_refused, defBody s__law_coins_refused, defScope s__law_coins_refused, [], []⟩
def dd__law_thrown_refused : He.DefD := ⟨("_law_thrown_refused", none), "_law_thrown_refused", "_law_thrown_refused", defArgs s__law_thrown_refused, defBody s__law_thrown_refused, defScope s__law_thrown_refused, [], []⟩
def dd_law : He.DefD := ⟨("law", none), "law", "law", defArgs s_law, defBody s_law, defScope s_law, [], []⟩
def dd_Gates___init__ : He.DefD := ⟨("Gates", some "__init__"), "__init__", "Gates.__init__", defArgs s_Gates___init__, defBody s_Gates___init__, defScope s_Gates___init__, [], []⟩
def dd_Gates_layers : He.DefD := ⟨("Gates", some "layers"), "layers", "Gates.layers", defArgs s_Gates_layers, defBody s_Gates_layers, defScope s_Gates_layers, [], []⟩
def dd_Gates___len__ : He.DefD := ⟨("Gates", some "__len__"), "__len__", "Gates.__len__", defArgs s_Gates___len__, defBody s_Gates___len__, defScope s_Gates___len__, [], []⟩
def dd_Gates___eq__ : He.DefD := ⟨("Gates", some "__eq__"), "__eq__", "Gates.__eq__", defArgs s_Gates___eq__, defBody s_Gates___eq__, defScope s_Gates___eq__, [], []⟩
def dd_Gates_check_layer : He.DefD := ⟨("Gates", some "check_layer"), "check_layer", "Gates.check_layer", defArgs s_Gates_check_layer, defBody s_Gates_check_layer, defScope s_Gates_check_layer, [], []⟩
def dd_Gates_cells : He.DefD := ⟨("Gates", some "cells"), "cells", "Gates.cells", defArgs s_Gates_cells, defBody s_Gates_cells, defScope s_Gates_cells, [], []⟩
def dd_Gates_told : He.DefD := ⟨("Gates", some "told"), "told", "Gates.told", defArgs s_Gates_told, defBody s_Gates_told, defScope s_Gates_told, [], []⟩
def dd_Gates_bits : He.DefD := ⟨("Gates", some "bits"), "bits", "Gates.bits", defArgs s_Gates_bits, defBody s_Gates_bits, defScope s_Gates_bits, [], []⟩
def dd_Gates_extended : He.DefD := ⟨("Gates", some "extended"), "extended", "Gates.extended", defArgs s_Gates_extended, defBody s_Gates_extended, defScope s_Gates_extended, [], []⟩
def dd_Poly___init__ : He.DefD := ⟨("Poly", some "__init__"), "__init__", "Poly.__init__", defArgs s_Poly___init__, defBody s_Poly___init__, defScope s_Poly___init__, [], []⟩
def dd_Poly_numbers : He.DefD := ⟨("Poly", some "numbers"), "numbers", "Poly.numbers", defArgs s_Poly_numbers, defBody s_Poly_numbers, defScope s_Poly_numbers, [], []⟩
def dd_Poly_degree : He.DefD := ⟨("Poly", some "degree"), "degree", "Poly.degree", defArgs s_Poly_degree, defBody s_Poly_degree, defScope s_Poly_degree, [], []⟩
def dd_Poly_at : He.DefD := ⟨("Poly", some "at"), "at", "Poly.at", defArgs s_Poly_at, defBody s_Poly_at, defScope s_Poly_at, [], []⟩
def dd_Poly___eq__ : He.DefD := ⟨("Poly", some "__eq__"), "__eq__", "Poly.__eq__", defArgs s_Poly___eq__, defBody s_Poly___eq__, defScope s_Poly___eq__, [], []⟩
def dd_Poly___add__ : He.DefD := ⟨("Poly", some "__add__"), "__add__", "Poly.__add__", defArgs s_Poly___add__, defBody s_Poly___add__, defScope s_Poly___add__, [], []⟩
def dd_Poly___sub__ : He.DefD := ⟨("Poly", some "__sub__"), "__sub__", "Poly.__sub__", defArgs s_Poly___sub__, defBody s_Poly___sub__, defScope s_Poly___sub__, [], []⟩
def dd_Poly___mul__ : He.DefD := ⟨("Poly", some "__mul__"), "__mul__", "Poly.__mul__", defArgs s_Poly___mul__, defBody s_Poly___mul__, defScope s_Poly___mul__, [], []⟩
def dd_Poly_parted : He.DefD := ⟨("Poly", some "parted"), "parted", "Poly.parted", defArgs s_Poly_parted, defBody s_Poly_parted, defScope s_Poly_parted, [], []⟩
def dd_Poly_roots : He.DefD := ⟨("Poly", some "roots"), "roots", "Poly.roots", defArgs s_Poly_roots, defBody s_Poly_roots, defScope s_Poly_roots, [], []⟩
def dd_Layers___init__ : He.DefD := ⟨("Layers", some "__init__"), "__init__", "Layers.__init__", defArgs s_Layers___init__, defBody s_Layers___init__, defScope s_Layers___init__, [], []⟩
def dd_Layers_place : He.DefD := ⟨("Layers", some "place"), "place", "Layers.place", defArgs s_Layers_place, defBody s_Layers_place, defScope s_Layers_place, [], []⟩
def dd_Layers_beats : He.DefD := ⟨("Layers", some "beats"), "beats", "Layers.beats", defArgs s_Layers_beats, defBody s_Layers_beats, defScope s_Layers_beats, [], []⟩
def dd_Layers_spot : He.DefD := ⟨("Layers", some "spot"), "spot", "Layers.spot", defArgs s_Layers_spot, defBody s_Layers_spot, defScope s_Layers_spot, [], []⟩
def dd_Layers_next_spot : He.DefD := ⟨("Layers", some "next_spot"), "next_spot", "Layers.next_spot", defArgs s_Layers_next_spot, defBody s_Layers_next_spot, defScope s_Layers_next_spot, [], []⟩
def dd_Layers_weights : He.DefD := ⟨("Layers", some "weights"), "weights", "Layers.weights", defArgs s_Layers_weights, defBody s_Layers_weights, defScope s_Layers_weights, [], []⟩
def dd_Layers_joint : He.DefD := ⟨("Layers", some "joint"), "joint", "Layers.joint", defArgs s_Layers_joint, defBody s_Layers_joint, defScope s_Layers_joint, [], []⟩
def dd_Layers_poly_joint : He.DefD := ⟨("Layers", some "poly_joint"), "poly_joint", "Layers.poly_joint", defArgs s_Layers_poly_joint, defBody s_Layers_poly_joint, defScope s_Layers_poly_joint, [], []⟩
def dd_Layers_degree : He.DefD := ⟨("Layers", some "degree"), "degree", "Layers.degree", defArgs s_Layers_degree, defBody s_Layers_degree, defScope s_Layers_degree, [], []⟩
def dd_Layers_coins : He.DefD := ⟨("Layers", some "coins"), "coins", "Layers.coins", defArgs s_Layers_coins, defBody s_Layers_coins, defScope s_Layers_coins, [], []⟩
def dd_Layers_claims : He.DefD := ⟨("Layers", some "claims"), "claims", "Layers.claims", defArgs s_Layers_claims, defBody s_Layers_claims, defScope s_Layers_claims, [], []⟩
def dd_Layers_truth : He.DefD := ⟨("Layers", some "truth"), "truth", "Layers.truth", defArgs s_Layers_truth, defBody s_Layers_truth, defScope s_Layers_truth, [], []⟩
def dd_Layers_right : He.DefD := ⟨("Layers", some "right"), "right", "Layers.right", defArgs s_Layers_right, defBody s_Layers_right, defScope s_Layers_right, [], []⟩
def dd_Layers_ends : He.DefD := ⟨("Layers", some "ends"), "ends", "Layers.ends", defArgs s_Layers_ends, defBody s_Layers_ends, defScope s_Layers_ends, [], []⟩
def fns0 : List He.DefD := [dd__wall, dd_is_integer, dd_is_list, dd_first_odd, dd_check_prime, dd_check_number, dd_is_coin, dd_first_bad_coin, dd_check_coins, dd_is_gate, dd_gate_row, dd_folded, dd_check_like, dd_worth_at, dd_folded_at, dd_check_thrown, dd_at_corner, dd_poly_at_corner, dd_poly_folded, dd_all_corners, dd__law_g_lot, dd__law_l_gates, dd__law_l_plan, dd__law_start, dd__law_draw, dd__law_pick, dd__law_mixed, dd__law_same, dd__law_frozen, dd__law_tried]
def fns1 : List He.DefD := [dd__law_coins_refused, dd__law_thrown_refused, dd_law, dd_Gates___init__, dd_Gates_layers, dd_Gates___len__, dd_Gates___eq__, dd_Gates_check_layer, dd_Gates_cells, dd_Gates_told, dd_Gates_bits, dd_Gates_extended, dd_Poly___init__, dd_Poly_numbers, dd_Poly_degree, dd_Poly_at, dd_Poly___eq__, dd_Poly___add__, dd_Poly___sub__, dd_Poly___mul__, dd_Poly_parted, dd_Poly_roots, dd_Layers___init__, dd_Layers_place, dd_Layers_beats, dd_Layers_spot, dd_Layers_next_spot, dd_Layers_weights, dd_Layers_joint, dd_Layers_poly_joint]
def fns2 : List He.DefD := [dd_Layers_degree, dd_Layers_coins, dd_Layers_claims, dd_Layers_truth, dd_Layers_right, dd_Layers_ends]
def fns : List He.DefD := fns0 ++ (fns1 ++ (fns2))
def exs (K : PySem.W.Frag) : Bool := DY.ckB K "Gates" && DY.neB K (He.ga K "Gates") && DY.ckB K "Poly" && DY.neB K (He.ga K "Poly") && DY.ckB K "Layers" && DL.itB K (He.ga K "BITS") [(1, 0), (2, 1), (4, 2)] && decide ((He.tabOf K (He.codeOf K ("_law_coins_refused", none)) ≠ He.tabOf K (He.codeOf K ("_law_thrown_refused", none)) ∧ He.tabOf K (He.codeOf K ("_law_coins_refused", none)) ≠ He.tabOf K (He.codeOf K ("law", none))) ∧ He.tabOf K (He.codeOf K ("_law_thrown_refused", none)) ≠ He.tabOf K (He.codeOf K ("law", none)))
def fas0 : List He.Fa := [.glo "TalkError", .glo "BadPrime", .glo "BadNumber", .glo "BadNumbers", .glo "UnlikePrimes", .glo "BadCoin", .glo "BadThrown", .glo "BadLayer", .glo "BadInputs", .glo "BadGate", .glo "NoLayer", .glo "BadPlace", .glo "Gates", .glo "Poly", .glo "Layers", .glo "_wall", .glo "is_integer", .glo "is_list", .glo "first_odd", .glo "check_prime", .glo "check_number", .glo "is_coin", .glo "first_bad_coin", .glo "check_coins", .glo "is_gate", .glo "gate_row", .glo "folded", .glo "check_like", .glo "worth_at", .glo "folded_at"]
def fas1 : List He.Fa := [.glo "check_thrown", .glo "at_corner", .glo "poly_at_corner", .glo "poly_folded", .glo "all_corners", .glo "_law_g_lot", .glo "_law_l_gates", .glo "_law_l_plan", .glo "_law_start", .glo "_law_draw", .glo "_law_pick", .glo "_law_mixed", .glo "_law_same", .glo "_law_frozen", .glo "_law_tried", .glo "_law_coins_refused", .glo "_law_thrown_refused", .glo "law", .glo "BITS", .free "all", .free "any", .free "bool", .free "dict", .free "enumerate", .free "int", .free "isinstance", .free "len", .free "list", .free "max", .free "min"]
def fas2 : List He.Fa := [.free "range", .free "str", .free "sum", .free "tuple", .free "zip", .int "MOST_PRIME" 101, .cls "Gates", .noat "Gates" "prime", .noat "Gates" "rows", .noat "Gates" "worths", .mkr "Gates", .meth "Gates" "layers", .meth "Gates" "__len__", .meth "Gates" "__eq__", .meth "Gates" "check_layer", .meth "Gates" "cells", .meth "Gates" "told", .meth "Gates" "bits", .meth "Gates" "extended", .cls "Poly", .noat "Poly" "prime", .noat "Poly" "row", .mkr "Poly", .meth "Poly" "numbers", .meth "Poly" "degree", .meth "Poly" "at", .meth "Poly" "__eq__", .meth "Poly" "__add__", .meth "Poly" "__sub__", .meth "Poly" "__mul__"]
def fas3 : List He.Fa := [.meth "Poly" "parted", .meth "Poly" "roots", .cls "Layers", .noat "Layers" "net", .noat "Layers" "prime", .noat "Layers" "begin", .noat "Layers" "lot", .noat "Layers" "sizes", .mkr "Layers", .meth "Layers" "place", .meth "Layers" "beats", .meth "Layers" "spot", .meth "Layers" "next_spot", .meth "Layers" "weights", .meth "Layers" "joint", .meth "Layers" "poly_joint", .meth "Layers" "degree", .meth "Layers" "coins", .meth "Layers" "claims", .meth "Layers" "truth", .meth "Layers" "right", .meth "Layers" "ends", .exm "BadPrime" "BadPlace" false, .exm "BadPrime" "BadCoin" false, .exm "BadPrime" "BadThrown" false, .exm "BadPrime" "BadNumber" false, .exm "BadNumber" "BadPlace" false, .exm "BadNumber" "BadCoin" false, .exm "BadNumber" "BadThrown" false, .exm "BadNumber" "BadNumber" true]
def fas4 : List He.Fa := [.exm "BadCoin" "BadPlace" false, .exm "BadCoin" "BadCoin" true, .exm "BadCoin" "BadThrown" false, .exm "BadCoin" "BadNumber" false, .exm "BadLayer" "BadPlace" false, .exm "BadLayer" "BadCoin" false, .exm "BadLayer" "BadThrown" false, .exm "BadLayer" "BadNumber" false, .exm "BadInputs" "BadPlace" false, .exm "BadInputs" "BadCoin" false, .exm "BadInputs" "BadThrown" false, .exm "BadInputs" "BadNumber" false, .exm "BadGate" "BadPlace" false, .exm "BadGate" "BadCoin" false, .exm "BadGate" "BadThrown" false, .exm "BadGate" "BadNumber" false, .exm "NoLayer" "BadPlace" false, .exm "NoLayer" "BadCoin" false, .exm "NoLayer" "BadThrown" false, .exm "NoLayer" "BadNumber" false, .exm "BadPlace" "BadPlace" true, .exm "BadPlace" "BadCoin" false, .exm "BadPlace" "BadThrown" false, .exm "BadPlace" "BadNumber" false, .exm "UnlikePrimes" "BadPlace" false, .exm "UnlikePrimes" "BadCoin" false, .exm "UnlikePrimes" "BadThrown" false, .exm "UnlikePrimes" "BadNumber" false, .exm "BadNumbers" "BadPlace" false, .exm "BadNumbers" "BadCoin" false]
def fas5 : List He.Fa := [.exm "BadNumbers" "BadThrown" false, .exm "BadNumbers" "BadNumber" false, .exm "BadThrown" "BadPlace" false, .exm "BadThrown" "BadCoin" false, .exm "BadThrown" "BadThrown" true, .exm "BadThrown" "BadNumber" false]
def fas : List He.Fa := fas0 ++ (fas1 ++ (fas2 ++ (fas3 ++ (fas4 ++ (fas5)))))
def names0 : List PySem.Str := ["_wall", "is_integer", "is_list", "first_odd", "TalkError", "BadPrime", "BadNumber", "BadNumbers", "UnlikePrimes", "BadCoin", "BadThrown", "BadLayer", "BadInputs", "BadGate", "NoLayer", "BadPlace", "MOST_PRIME", "check_prime", "check_number", "is_coin", "first_bad_coin", "check_coins", "BITS", "is_gate", "gate_row", "folded", "Gates", "check_like", "worth_at", "folded_at"]
def names1 : List PySem.Str := ["Poly", "check_thrown", "at_corner", "poly_at_corner", "poly_folded", "all_corners", "Layers", "_law_g_lot", "_law_l_gates", "_law_l_plan", "_law_start", "_law_draw", "_law_pick", "_law_mixed", "_law_same", "_law_frozen", "_law_tried", "_law_coins_refused", "_law_thrown_refused"]
def names : List PySem.Str := names0 ++ (names1)
abbrev R : PySem.W.OpenRow := PySem.W.OpenLaw.row PySem.Challenge.rw_weaktalks_k54_layer_talks_refused
abbrev tfs : List He.Defn := [("_law_coins_refused", none), ("_law_thrown_refused", none), ("law", none)]
abbrev fileS : Str := R.prog.main.file
abbrev hk : PySem.W.Hook := DY.hookY 4 fileS fas fns [] xds exs tfs
def ob (s : PySem.W.SharedT) : DY.AlY := DY.obsY 4 fileS fas fns [] xds exs tfs (HandSHeadRun.getT s)
theorem ob_eq (s : PySem.W.SharedT) : ob s = hk.obs s.abs := DY.obsY_eq (HandSHeadRun.getT_eq s)
abbrev iLaw : Nat := 58
set_option maxHeartbeats 0 in
theorem runF (w : World) : HandSHeadRun.RunEq R (PySem.W.view R.prog [iLaw]) hk ob 9000 names (w.withFollow "special-get-raises" false) := by
  intro os
  kernel_rfl
set_option maxHeartbeats 0 in
theorem runT (w : World) : HandSHeadRun.RunEq R (PySem.W.view R.prog [iLaw]) hk ob 9000 names (w.withFollow "special-get-raises" true) := by
  intro os
  kernel_rfl
theorem run (w : World) : HandSHeadRun.RunEq R (PySem.W.view R.prog [iLaw]) hk ob 9000 names w := by
  have e := World.withFollow_self w "special-get-raises"
  cases hb : w.params.followText "special-get-raises" <;> rw [hb] at e
  · exact e ▸ runF w
  · exact e ▸ runT w

end K54

set_option Elab.async false
set_option linter.all false
set_option maxRecDepth 100000
set_option maxHeartbeats 4000000
namespace K54
open PySem PySem.Spec PyProof.Rows L2 DL
section
variable {P : Program} {w : World} {K : PySem.W.Frag} {mg : Str → Option Value} {base : Heap} {A : Ad}
local macro_rules | `(tactic| walk_at "s0") => `(tactic| with_reducible first
  | refine ws_seq ?_ | refine ws_next ?_ | refine ws_ret ?_ | refine ws_retN ?_ | refine ws_if ?_ | refine ws_asg ?_ | refine ws_drop ?_ | refine ws_par ?_ | refine ws_break ?_ | refine ws_cont ?_
  | refine we_var rfl ?_ | refine we_int ?_ | refine we_non ?_ | refine we_bl ?_ | refine we_str ?_ | refine we_ty ?_ | refine we_dnew ?_ | refine we_op ?_ | refine we_un ?_
  | refine we_and ?_ | refine we_or ?_ | refine we_not ?_ | refine we_if ?_ | refine we_chain ?_ | refine we_cb ?_ | refine we_tup ?_ | refine we_lst ?_
  | refine wl_cons ?_ | refine wl_nil ?_ | refine wt_B ?_ | refine wt_test ?_ | refine wt_and ?_ | refine wt_or ?_ | refine wt_not ?_ | refine wt_yes ?_
  | refine wi_tup ?_ | refine wi_list ?_ | refine wg_tup rfl ?_ | refine wgs_cons ?_ | refine wgs_nil ?_
  | refine rd_add_int ?_ | refine rd_sub ?_ | refine rd_lt ?_ | refine rd_le ?_ | refine rd_gt ?_ | refine rd_ge ?_ | refine rd_eq_int ?_ | refine rd_ne_int ?_ | refine rd_eq_str ?_ | refine rd_ne_str ?_ | refine rd_eq_bl ?_ | refine rd_ne_bl ?_ | refine rd_is ?_ | refine rd_is_bl ?_ | refine rd_isnot ?_ | refine ru_neg ?_
  | refine rc_int ?_ | refine rc_abs ?_ | refine rc_anyF ?_ | refine rc_allF ?_
  | refine brT ?_ | refine brF ?_ | refine brT' ?_ | refine brF' ?_
  | refine ⟨_, rfl, ?_⟩)
set_option hygiene false in
local macro_rules | `(tactic| walk_at "s1") => `(tactic| first
  | refine we_isiLT ?_ | refine we_isiILT ?_ | refine wi_seqV (by rfl) (by rfl) ?_ | walk_at "s0" | refine ⟨true, by rfl, ?_⟩ | refine ⟨false, by rfl, ?_⟩ | refine we_ref ?_ | refine we_fld1 ?_ | refine ⟨_, _, _, _, rfl, T.n_Gates_prime, by rfl, ?_⟩ | refine ⟨_, _, _, _, rfl, T.n_Gates_rows, by rfl, ?_⟩ | refine ⟨_, _, _, _, rfl, T.n_Gates_worths, by rfl, ?_⟩ | refine ⟨_, _, _, _, rfl, T.n_Poly_prime, by rfl, ?_⟩ | refine ⟨_, _, _, _, rfl, T.n_Poly_row, by rfl, ?_⟩ | refine ⟨_, _, _, _, rfl, T.n_Layers_net, by rfl, ?_⟩ | refine ⟨_, _, _, _, rfl, T.n_Layers_prime, by rfl, ?_⟩ | refine ⟨_, _, _, _, rfl, T.n_Layers_begin, by rfl, ?_⟩ | refine ⟨_, _, _, _, rfl, T.n_Layers_lot, by rfl, ?_⟩ | refine ⟨_, _, _, _, rfl, T.n_Layers_sizes, by rfl, ?_⟩ | refine rc_isiB (r := true) (by rfl) ?_ | refine rc_isiO T.k_Gates ?_ | refine rc_isiN T.k_Gates (by rfl) ?_ | refine rc_isiO T.k_Poly ?_ | refine rc_isiN T.k_Poly (by rfl) ?_ | refine rc_isiO T.k_Layers ?_ | refine rc_isiN T.k_Layers (by rfl) ?_ | refine we_callF (by assumption) ?_ | refine we_callF (X := fun _ _ _ _ => False) xok0 ?_ | refine we_callFl (by assumption) ?_ | refine we_callFl (X := fun _ _ _ _ => False) xok0 ?_ | refine we_makeFl (by assumption) ?_ | refine we_makeFl (X := fun _ _ _ _ => False) xok0 ?_ | refine we_makeF (by assumption) ?_ | refine we_makeF (X := fun _ _ _ _ => False) xok0 ?_ | refine DX.ws_rs (by assumption) ?_ | refine wt_test ?_ | refine co_ret rfl (by rfl) ?_ | refine wg_nm (by rfl) ?_ | refine parB (by rfl) (by rfl) ?_ | refine szB (by rfl) ?_ | refine szL (by rfl) ?_ | refine brT2 (by rfl) ?_ | refine brF2 (by rfl) ?_ | refine brT3 (by rfl) ?_ | refine brF3 (by rfl) ?_ | refine rc_isiB (r := false) (by rfl) ?_)
theorem prm_le {p : Int} (h : isPrm p = true) : 2 ≤ p ∧ p ≤ 101 := by
  unfold isPrm at h
  simp only [Bool.and_eq_true, decide_eq_true_eq] at h
  exact ⟨h.1, h.2.1⟩
theorem gPrime_int {A : Ad} {p : Int} : gPrime A [.int p] = some (if isPrm p then .ret .non else .exc A.BadPrime ["prime"] [.int p]) := rfl
theorem gPrime_bad {A : Ad} {d : D} (h : (tyN d).isSome = true) (h2 : isIntD d = false) : gPrime A [d] = some (.exc A.BadPrime ["prime"] [d]) := by
  cases d <;> first | rfl | (cases h; done) | (cases h2; done)
theorem gIsInt_eq {d : D} (h : (tyN d).isSome = true) : gIsInt [d] = some (.ret (.bl (isIntD d))) := if_pos h
theorem gIsList_eq {d : D} (h : (tyN d).isSome = true) : gIsList [d] = some (.ret (.bl (isLst d))) := if_pos h
theorem cut_take {l : List D} {k : Nat} : DL.cutD l none (some (k : Int)) = l.take k := by
  have e1 : HT.sIx l.length l.length (some (k : Int)) = min k l.length := HT.sIx_nat _ _ _
  unfold DL.cutD
  rw [e1]
  show (l.drop 0).take (min k l.length - 0) = _
  rw [List.drop_zero, Nat.sub_zero, ← List.take_eq_take_min]
theorem cut_drop {l : List D} {k : Nat} : DL.cutD l (some (k : Int)) none = l.drop k := by
  have e1 : HT.sIx l.length 0 (some (k : Int)) = min k l.length := HT.sIx_nat _ _ _
  unfold DL.cutD
  rw [e1]
  show (l.drop (min k l.length)).take (l.length - min k l.length) = _
  by_cases h : k ≤ l.length
  · rw [Nat.min_eq_left h]
    exact List.take_of_length_le (by rw [List.length_drop]; exact Nat.le_refl _)
  · rw [Nat.min_eq_right (by omega), List.drop_length, List.drop_of_length_le (by omega), List.take_nil]
def itemsD : D → List D
  | .lst l => l
  | .tup l => l
  | _ => []
/-! a gate -/
def cellOk (n : Int) (d : D) : Bool := match d with
  | .int i => decide (0 ≤ i) && decide (i < n)
  | _ => false
def deedOk (d : D) : Bool := match d with
  | .str z => decide ("+" = z) || decide ("*" = z)
  | _ => false
def gate3 (n : Int) : List D → Bool
  | [a, b, c] => deedOk a && (cellOk n b && cellOk n c)
  | _ => false
def gateOk (n : Int) (d : D) : Bool := isLst d && gate3 n (itemsD d)
def gGate : List D → Option Out
  | [d, .int n] => if okO d = true then some (.ret (.bl (gateOk n d))) else none
  | _ => none
theorem eqF_str {a b : Str} : eqF (.str a) (.str b) = decide (a = b) := by
  show PyData.eqv (.str a) (.str b) = _
  simp [PyData.eqv]
  try rfl
theorem ok_is_gate (T : Tx P K mg A) : CalX P w K mg base 2 "is_gate" (SpS K 2 (spcF gGate)) := by
  have c_is_list := @ok_is_list P w K mg base A T
  have c_is_integer := @ok_is_integer P w K mg base A T
  obtain ⟨a, fd, F, m, bi⟩ := T.f_is_gate
  refine ⟨a, fd, _, fnS F sc_is_gate rfl (fun cdv A' outer sh H E hr => ⟨_, (pss_cons (ps_if (PW.pt (pw_or (pt_not (pt_val (pe_cx c_is_list hr (by omega) (by rfl) (passes_call (takes_of rfl rfl rfl rfl) (fun _ _ _ _ z => z)) (pa_cons (pv 0) pa_nil)))) (pw_or (pt_cmpR (DK.op_ne (K := K) (hr.units)) (pe_callB (DK.len (K := K)) (by rfl) T.z_len (by decide +kernel) (pa_cons (pv 0) pa_nil)) pe_int (nomark _)) (pw_or (pt_not (pt_val (pe_callB (DK.isi (K := K)) (by rfl) T.z_isinstance (by decide +kernel) (pa_cons (pe_ix (DK.ix (K := K)) (pv 0) pe_int (fun _ _ => rfl)) (pa_cons (pe_tyn (n := "str") (by rfl) T.z_str (by decide +kernel)) pa_nil))))) (pw_or1 (pt_cmpR (DK.op_nin (K := K)) (pe_ix (DK.ix (K := K)) (pv 0) pe_int (fun _ _ => rfl)) (pe_tup (pa_cons pe_str (pa_cons pe_str pa_nil))) (by rfl)))))))
  (pss_one (ps_ret pe_bl))
  pss_nil)
  (pss_one (ps_ret (pe_callB (DK.all (K := K)) (by rfl) T.z_all (by decide +kernel) (pa_cons (pe_lc (own := [("cell", 2)]) (g := (gName 2)) (tt := tYes) rfl sc_is_gate.nd (DK.pi_seq (K := K) (pe_slice (DK.sl (K := K)) (pv 0) (po_some pe_int) po_none)) (blkOk_by (own := [("cell", 2)]) (N := n_is_gate) (sc := (defScope s_is_gate)) (by first | decide +kernel | kernel_rfl)) (fun _ _ _ _ _ => (pg_name (i := 2) sc_is_gate.nd rfl (by first | exact .inl rfl | exact .inr rfl))) (fun _ _ _ _ _ => pts_nil) (fun _ _ _ _ _ => (pe_and (pe_cx c_is_integer hr (by omega) (by rfl) passL (pa_cons (pv 2) pa_nil)) (pe_one (pe_chain op_leK op_ltK pe_int (pv 2) (pv 1)))))) pa_nil))))), fun R k0 ds b hp hl hE => ?_⟩), m, F.kp, bi⟩
  obtain ⟨o, ho⟩ := hp
  obtain ⟨d, n, rfl⟩ : ∃ d n, ds = [d, .int n] := by
    unfold gGate at ho
    split at ho
    · exact ⟨_, _, rfl⟩
    · cases ho
  have ek : okO d = true := by
    by_cases h : okO d = true
    · exact h
    · have e : gGate [d, .int n] = none := if_neg h
      rw [e] at ho
      cases ho
  have eg : gGate [d, .int n] = some (.ret (.bl (gateOk n d))) := if_pos ek
  have cell : ∀ {E : XK} {S : Sta} {d : D} {Q : D → Sta → Prop} {c : Cn}, c.K = K → (tyN d).isSome = true → S.δ[2]? = some (some d) → S.δ[1]? = some (some (.int n)) → Q (.bl (cellOk n d)) S → WE c (tAndV (tCall (SpS K 1 (spcF gIsInt)) [] E (tCons (tVar 2) tNil)) (tChain rLeK rLtK (tC (V.int 0)) (tVar 2) (tVar 1))) S Q := fun {E S d Q c} hc hd h2 h1 q => by
    subst hc
    refine we_and (we_callF (X := fun _ _ _ _ => False) xok0 (wl_cons (we_var h2 (wl_nil (co_ret rfl (gIsInt_eq hd) ?_)))))
    refine ⟨_, rfl, fun hi => ?_, fun hi => ?_⟩
    · obtain ⟨i, rfl⟩ : ∃ i, d = .int i := by cases d <;> first | exact ⟨_, rfl⟩ | cases hi
      refine we_chain (we_int (we_var h2 (rd_le ⟨_, rfl, fun hz => ?_, fun hz => we_var h1 (rd_lt ?_)⟩)))
      · have e : cellOk n (.int i) = false := by
          show (decide (0 ≤ i) && _) = false
          rw [hz]
          rfl
        rw [e] at q
        exact q
      · have e : cellOk n (.int i) = decide (i < n) := by
          show (decide (0 ≤ i) && _) = _
          rw [hz]
          rfl
        rw [e] at q
        exact q
    · have e : cellOk n d = false := by cases d <;> first | rfl | cases hi
      rw [e] at q
      exact q
  have two : ∀ l : List D, typed l = true → (∃ x y z, l = [x, y, z] ∧ (tyN x).isSome = true ∧ (tyN y).isSome = true ∧ (tyN z).isSome = true) ∨ (l.length ≠ 3 ∧ gate3 n l = false) := fun l t => by
    match l with
    | [] => exact .inr ⟨by decide, rfl⟩
    | [x] => exact .inr ⟨by simp, rfl⟩
    | [x, y] => exact .inr ⟨by simp, rfl⟩
    | [x, y, z] => exact .inl ⟨x, y, z, rfl, List.all_eq_true.mp t x (by simp), List.all_eq_true.mp t y (by simp), List.all_eq_true.mp t z (by simp)⟩
    | x :: y :: z :: u :: l => exact .inr ⟨by simp, rfl⟩
  cases d
  case lst l =>
    obtain ⟨l1, l2⟩ := Bool.and_eq_true_iff.mp ek
    replace eg : gGate [.lst l, .int n] = some (.ret (.bl (gate3 n l))) := eg
    repeat (walk_at "s1")
    refine rc_len (l := l) rfl ?_
    repeat (walk_at "s1")
    rcases two l l2 with ⟨x, y, z, rfl, tx, ty, tz⟩ | ⟨n3, e⟩
    rotate_left
    · rw [e] at eg
      refine ⟨fun h => absurd h (by simp; omega), fun _ => ?_⟩
      repeat (walk_at "s1")
      exact ⟨eg, rfl⟩
    refine ⟨fun h3 => ?_, fun h => absurd h (by simp)⟩
    clear h3
    repeat (walk_at "s1")
    refine rd_ix rfl (d := x) atI_0 ?_
    repeat (walk_at "s1")
    refine rc_isiS tx (by simp [Knd]) ?_
    cases x
    case str zs =>
      repeat (walk_at "s1")
      refine rd_ix rfl (d := .str zs) atI_0 ?_
      repeat (walk_at "s1")
      refine rd_nin rfl rfl rfl ?_
      have ed : ([D.str "+", .str "*"].any fun y => eqF y (.str zs)) = deedOk (.str zs) := by
        show (eqF (.str "+") (.str zs) || (eqF (.str "*") (.str zs) || false)) = (decide ("+" = zs) || decide ("*" = zs))
        rw [eqF_str, eqF_str, Bool.or_false]
      rw [ed]
      cases hd : deedOk (.str zs) with
      | false =>
        have e : gate3 n [.str zs, y, z] = false := by
          show (deedOk (.str zs) && _) = false
          rw [hd]
          rfl
        rw [e] at eg
        repeat (walk_at "s1")
        exact ⟨eg, rfl⟩
      | true =>
        have e : gate3 n [.str zs, y, z] = ([y, z].all (cellOk n)) := by
          show (deedOk (.str zs) && _) = (cellOk n y && (cellOk n z && true))
          rw [hd, Bool.true_and, Bool.and_true]
        rw [e] at eg
        refine ⟨false, rfl, ?_⟩
        refine brF ?_
        refine ws_next ?_
        refine ws_ret (we_cb (wl_cons (we_lcM (kg_name (by decide)) (wi_seqL (we_slL (we_var rfl (wo_some (we_int ⟨_, rfl, wo_none ⟨_, rfl, _, rfl, ?_⟩⟩))))))))
        have ec : DL.cutD [D.str zs, y, z] (some 1) none = [y, z] := cut_drop (k := 1)
        rw [ec]
        refine ⟨fun x => .bl (cellOk n x), lt_size (by show 2 < _; decide), fun d hd oo acc => ?_, ?_⟩
        · have td : (tyN d).isSome = true := by
            simp only [List.mem_cons, List.not_mem_nil, or_false] at hd
            rcases hd with rfl | rfl
            · exact ty
            · exact tz
          refine wg_nm (by rfl) ?_
          exact cell rfl td rfl rfl ⟨rfl, rfl, rfl⟩
        · refine wl_nil ?_
          refine rc_allF ?_
          exact ⟨eg, rfl⟩
    all_goals first
      | (repeat (walk_at "s1")
         exact ⟨eg, rfl⟩)
  case tup l =>
    obtain ⟨l1, l2⟩ := Bool.and_eq_true_iff.mp ek
    replace eg : gGate [.tup l, .int n] = some (.ret (.bl (gate3 n l))) := eg
    repeat (walk_at "s1")
    refine rc_len (l := l) rfl ?_
    repeat (walk_at "s1")
    rcases two l l2 with ⟨x, y, z, rfl, tx, ty, tz⟩ | ⟨n3, e⟩
    rotate_left
    · rw [e] at eg
      refine ⟨fun h => absurd h (by simp; omega), fun _ => ?_⟩
      repeat (walk_at "s1")
      exact ⟨eg, rfl⟩
    refine ⟨fun h3 => ?_, fun h => absurd h (by simp)⟩
    clear h3
    repeat (walk_at "s1")
    refine rd_ix rfl (d := x) atI_0 ?_
    repeat (walk_at "s1")
    refine rc_isiS tx (by simp [Knd]) ?_
    cases x
    case str zs =>
      repeat (walk_at "s1")
      refine rd_ix rfl (d := .str zs) atI_0 ?_
      repeat (walk_at "s1")
      refine rd_nin rfl rfl rfl ?_
      have ed : ([D.str "+", .str "*"].any fun y => eqF y (.str zs)) = deedOk (.str zs) := by
        show (eqF (.str "+") (.str zs) || (eqF (.str "*") (.str zs) || false)) = (decide ("+" = zs) || decide ("*" = zs))
        rw [eqF_str, eqF_str, Bool.or_false]
      rw [ed]
      cases hd : deedOk (.str zs) with
      | false =>
        have e : gate3 n [.str zs, y, z] = false := by
          show (deedOk (.str zs) && _) = false
          rw [hd]
          rfl
        rw [e] at eg
        repeat (walk_at "s1")
        exact ⟨eg, rfl⟩
      | true =>
        have e : gate3 n [.str zs, y, z] = ([y, z].all (cellOk n)) := by
          show (deedOk (.str zs) && _) = (cellOk n y && (cellOk n z && true))
          rw [hd, Bool.true_and, Bool.and_true]
        rw [e] at eg
        refine ⟨false, rfl, ?_⟩
        refine brF ?_
        refine ws_next ?_
        refine ws_ret (we_cb (wl_cons (we_lcM (kg_name (by decide)) (wi_seqT (we_slT (we_var rfl (wo_some (we_int ⟨_, rfl, wo_none ⟨_, rfl, _, rfl, ?_⟩⟩))))))))
        have ec : DL.cutD [D.str zs, y, z] (some 1) none = [y, z] := cut_drop (k := 1)
        rw [ec]
        refine ⟨fun x => .bl (cellOk n x), lt_size (by show 2 < _; decide), fun d hd oo acc => ?_, ?_⟩
        · have td : (tyN d).isSome = true := by
            simp only [List.mem_cons, List.not_mem_nil, or_false] at hd
            rcases hd with rfl | rfl
            · exact ty
            · exact tz
          refine wg_nm (by rfl) ?_
          exact cell rfl td rfl rfl ⟨rfl, rfl, rfl⟩
        · refine wl_nil ?_
          refine rc_allF ?_
          exact ⟨eg, rfl⟩
    all_goals first
      | (repeat (walk_at "s1")
         exact ⟨eg, rfl⟩)
  all_goals first
    | exact absurd ek Bool.false_ne_true
    | (repeat (walk_at "s1")
       exact ⟨eg, rfl⟩)
end
end K54

set_option Elab.async false
set_option linter.all false
set_option maxRecDepth 100000
set_option maxHeartbeats 4000000
namespace K54
open PySem PySem.Spec PyProof.Rows L2 DL
section
variable {P : Program} {w : World} {K : PySem.W.Frag} {mg : Str → Option Value} {base : Heap} {A : Ad}
local macro_rules | `(tactic| walk_at "s0") => `(tactic| with_reducible first
  | refine ws_seq ?_ | refine ws_next ?_ | refine ws_ret ?_ | refine ws_retN ?_ | refine ws_if ?_ | refine ws_asg ?_ | refine ws_drop ?_ | refine ws_par ?_ | refine ws_break ?_ | refine ws_cont ?_
  | refine we_var rfl ?_ | refine we_int ?_ | refine we_non ?_ | refine we_bl ?_ | refine we_str ?_ | refine we_ty ?_ | refine we_dnew ?_ | refine we_op ?_ | refine we_un ?_
  | refine we_and ?_ | refine we_or ?_ | refine we_not ?_ | refine we_if ?_ | refine we_chain ?_ | refine we_cb ?_ | refine we_tup ?_ | refine we_lst ?_
  | refine wl_cons ?_ | refine wl_nil ?_ | refine wt_B ?_ | refine wt_test ?_ | refine wt_and ?_ | refine wt_or ?_ | refine wt_not ?_ | refine wt_yes ?_
  | refine wi_tup ?_ | refine wi_list ?_ | refine wg_tup rfl ?_ | refine wgs_cons ?_ | refine wgs_nil ?_
  | refine rd_add_int ?_ | refine rd_sub ?_ | refine rd_lt ?_ | refine rd_le ?_ | refine rd_gt ?_ | refine rd_ge ?_ | refine rd_eq_int ?_ | refine rd_ne_int ?_ | refine rd_eq_str ?_ | refine rd_ne_str ?_ | refine rd_eq_bl ?_ | refine rd_ne_bl ?_ | refine rd_is ?_ | refine rd_is_bl ?_ | refine rd_isnot ?_ | refine ru_neg ?_
  | refine rc_int ?_ | refine rc_abs ?_ | refine rc_anyF ?_ | refine rc_allF ?_
  | refine brT ?_ | refine brF ?_ | refine brT' ?_ | refine brF' ?_
  | refine ⟨_, rfl, ?_⟩)
set_option hygiene false in
local macro_rules | `(tactic| walk_at "s1") => `(tactic| first
  | refine we_isiLT ?_ | refine we_isiILT ?_ | refine wi_seqV (by rfl) (by rfl) ?_ | walk_at "s0" | refine ⟨true, by rfl, ?_⟩ | refine ⟨false, by rfl, ?_⟩ | refine we_ref ?_ | refine we_fld1 ?_ | refine ⟨_, _, _, _, rfl, T.n_Gates_prime, by rfl, ?_⟩ | refine ⟨_, _, _, _, rfl, T.n_Gates_rows, by rfl, ?_⟩ | refine ⟨_, _, _, _, rfl, T.n_Gates_worths, by rfl, ?_⟩ | refine ⟨_, _, _, _, rfl, T.n_Poly_prime, by rfl, ?_⟩ | refine ⟨_, _, _, _, rfl, T.n_Poly_row, by rfl, ?_⟩ | refine ⟨_, _, _, _, rfl, T.n_Layers_net, by rfl, ?_⟩ | refine ⟨_, _, _, _, rfl, T.n_Layers_prime, by rfl, ?_⟩ | refine ⟨_, _, _, _, rfl, T.n_Layers_begin, by rfl, ?_⟩ | refine ⟨_, _, _, _, rfl, T.n_Layers_lot, by rfl, ?_⟩ | refine ⟨_, _, _, _, rfl, T.n_Layers_sizes, by rfl, ?_⟩ | refine rc_isiB (r := true) (by rfl) ?_ | refine rc_isiO T.k_Gates ?_ | refine rc_isiN T.k_Gates (by rfl) ?_ | refine rc_isiO T.k_Poly ?_ | refine rc_isiN T.k_Poly (by rfl) ?_ | refine rc_isiO T.k_Layers ?_ | refine rc_isiN T.k_Layers (by rfl) ?_ | refine we_callF (by assumption) ?_ | refine we_callF (X := fun _ _ _ _ => False) xok0 ?_ | refine we_callFl (by assumption) ?_ | refine we_callFl (X := fun _ _ _ _ => False) xok0 ?_ | refine we_makeFl (by assumption) ?_ | refine we_makeFl (X := fun _ _ _ _ => False) xok0 ?_ | refine we_makeF (by assumption) ?_ | refine we_makeF (X := fun _ _ _ _ => False) xok0 ?_ | refine DX.ws_rs (by assumption) ?_ | refine wt_test ?_ | refine co_ret rfl (by rfl) ?_ | refine wg_nm (by rfl) ?_ | refine parB (by rfl) (by rfl) ?_ | refine szB (by rfl) ?_ | refine szL (by rfl) ?_ | refine brT2 (by rfl) ?_ | refine brF2 (by rfl) ?_ | refine brT3 (by rfl) ?_ | refine brF3 (by rfl) ?_ | refine rc_isiB (r := false) (by rfl) ?_)
/-! the numbers that gates make -/
abbrev Gt := Str × Int × Int
def tD (g : Gt) : D := .tup [.str g.1, .int g.2.1, .int g.2.2]
theorem tD_inj : ∀ {a b : List Gt}, a.map tD = b.map tD → a = b
  | [], [], _ => rfl
  | [], _ :: _, h => by cases h
  | _ :: _, [], h => by cases h
  | ⟨x, y, z⟩ :: a, ⟨x', y', z'⟩ :: b, h => by
    injection h with h1 h2
    injection h1 with h1
    injection h1 with h3 h4
    injection h3 with h3
    injection h4 with h5 h6
    injection h5 with h5
    injection h6 with h6 _
    injection h6 with h6
    subst h3 h5 h6
    rw [tD_inj h2]
def gtOk (n : Nat) (g : Gt) : Prop := (0 ≤ g.2.1 ∧ g.2.1 < n) ∧ 0 ≤ g.2.2 ∧ g.2.2 < n
def rowI (p : Int) (cells : List Int) (g : Gt) : Int := (if g.1 = "+" then cells.getD g.2.1.toNat 0 + cells.getD g.2.2.toNat 0 else cells.getD g.2.1.toNat 0 * cells.getD g.2.2.toNat 0) % p
noncomputable def gRowG : List D → Option Out := gOf (fun x : Int × List Int × List Gt => [.lst (x.2.2.map tD), iL x.2.1, .int x.1]) (fun x => (0 < x.1 ∧ x.1 ≤ 101) ∧ (∀ y ∈ x.2.1, 0 ≤ y ∧ y < x.1) ∧ x.2.2.length ≤ 100 ∧ ∀ g ∈ x.2.2, gtOk x.2.1.length g) fun x => .ret (iL (x.2.2.map (rowI x.1 x.2.1)))
theorem gRowG_eq {p : Int} {cells : List Int} {gs : List Gt} (h1 : 0 < p ∧ p ≤ 101) (h2 : ∀ y ∈ cells, 0 ≤ y ∧ y < p) (h3 : gs.length ≤ 100) (h4 : ∀ g ∈ gs, gtOk cells.length g) : gRowG [.lst (gs.map tD), iL cells, .int p] = some (.ret (iL (gs.map (rowI p cells)))) :=
  gOf_eq (ar := fun x : Int × List Int × List Gt => [.lst (x.2.2.map tD), iL x.2.1, .int x.1]) (x := (p, cells, gs)) (fun x y e => by
    injection e with e1 e
    injection e with e2 e
    injection e with e3 _
    injection e1 with e1
    injection e2 with e2
    injection e3 with e3
    exact Prod.ext e3 (Prod.ext (iL_inj e2) (tD_inj e1))) ⟨h1, h2, h3, h4⟩
theorem at_cell {cells : List Int} {i : Int} (h0 : 0 ≤ i) (h1 : i < cells.length) : atI (cells.map D.int) i = some (.int (cells.getD i.toNat 0)) ∧ cells.getD i.toNat 0 ∈ cells := by
  obtain ⟨k, rfl⟩ := Int.eq_ofNat_of_zero_le h0
  have hk : k < cells.length := by omega
  have e : cells[k]? = some cells[k] := List.getElem?_eq_getElem hk
  have e2 : cells.getD ((k : Int)).toNat 0 = cells[k] := by rw [Int.toNat_natCast, List.getD_eq_getElem?_getD, e]; rfl
  rw [e2]
  exact ⟨DL.atI_nat (by rw [List.getElem?_map, e]; rfl), List.getElem_mem hk⟩
theorem ok_gate_row (T : Tx P K mg A) : CalX P w K mg base 1 "gate_row" (SpS K 3 (spcF gRowG)) := by
  obtain ⟨a, fd, F, m, bi⟩ := T.f_gate_row
  refine ⟨a, fd, _, fnS F sc_gate_row rfl (fun cdv A' outer sh H E hr => ⟨_, (pss_cons (ps_asg (pe_lst pa_nil) (pg_name (i := 3) sc_gate_row.nd rfl (by first | exact .inl rfl | exact .inr rfl)))
  (pss_cons (ps_for (passes_of rfl) rfl (DK.pi_seq (K := K) (pv 0)) (DK.pg_tup (K := K) rfl (pgs_cons (pg_name (i := 4) sc_gate_row.nd rfl (by first | exact .inl rfl | exact .inr rfl)) (pgs_cons (pg_name (i := 5) sc_gate_row.nd rfl (by first | exact .inl rfl | exact .inr rfl)) (pgs_cons (pg_name (i := 6) sc_gate_row.nd rfl (by first | exact .inl rfl | exact .inr rfl)) pgs_nil))))
  (pss_cons (ps_par (by rfl) sc_gate_row.nd (i := 7) (j := 8) rfl rfl (by decide) rfl rfl (pa_cons (pe_ix (DK.ix (K := K)) (pv 1) (pv 5) (fun _ _ => rfl)) (pa_cons (pe_ix (DK.ix (K := K)) (pv 1) (pv 6) (fun _ _ => rfl)) pa_nil)) (by rfl))
  (pss_one (ps_expr (pe_bm PySem.F.plainAttrs_list PySem.F.slot_list_append PySem.F.type_list_append mt_append (pv 3) (pa_cons (pe_op op_modK (pe_ifExp (pt_cmpR (DK.op_eq (K := K) (hr.units)) (pv 4) pe_str (nomark _)) (pe_op (DK.op_add (K := K)) (pv 7) (pv 8)) (pe_op op_mulK (pv 7) (pv 8))) (pv 2)) pa_nil))))))
  (pss_one (ps_ret (pv 3))))), fun R k0 ds b hp hl hE => ?_⟩), m, F.kp, bi⟩
  obtain ⟨o, ho⟩ := hp
  obtain ⟨⟨p, cells, gs⟩, rfl, ⟨⟨h0, h1⟩, h2, h3, h4⟩, rfl⟩ := gOf_inv ho
  dsimp only at h0 h1 h2 h3 h4 ho hl ⊢
  refine ws_seq (ws_asg (we_lstM (wl_nil (szB rfl fun q _ => ?_))))
  refine wg_nm (by rfl) ?_
  refine ws_seq (ws_for (wi_seqV (by rfl) (by rfl) ?_))
  dsimp only [List.set]
  refine ⟨fun i ς => ∃ x4 x5 x6 x7 x8, ς = { δ := [some (.lst (gs.map tD)), some (iL cells), some (.int p), some (.ref q), x4, x5, x6, x7, x8], m := [(q, .lst (((gs.take i).map (rowI p cells)).map D.int))], b := b }, ⟨none, none, none, none, none, rfl⟩, ?_, ?_⟩
  · rintro i d ς hi ⟨x4, x5, x6, x7, x8, rfl⟩
    obtain ⟨g, hg, rfl⟩ : ∃ g, gs[i]? = some g ∧ d = tD g := by
      rw [List.getElem?_map] at hi
      cases e : gs[i]? with
      | none => rw [e] at hi; cases hi
      | some g => rw [e] at hi; cases hi; exact ⟨g, rfl, rfl⟩
    obtain ⟨z, x, y⟩ := g
    obtain ⟨⟨c1, c2⟩, c3, c4⟩ := h4 _ (List.mem_of_getElem? hg)
    obtain ⟨a1, m1⟩ := at_cell c1 c2
    obtain ⟨a2, m2⟩ := at_cell c3 c4
    have b1 := h2 _ m1
    have b2 := h2 _ m2
    dsimp only at b1 b2 a1 a2
    refine wg_tup rfl (wgs_cons (wg_nm (by rfl) (wgs_cons (wg_nm (by rfl) (wgs_cons (wg_nm (by rfl) (wgs_nil ?_)))))))
    dsimp only [List.set]
    refine ws_seq (ws_par (wl_cons (we_op (we_var rfl (we_var rfl (rd_ix rfl a1 (wl_cons (we_op (we_var rfl (we_var rfl (rd_ix rfl a2 (wl_nil (parB (by rfl) (by rfl) ?_)))))))))))))
    dsimp only [List.set]
    refine ws_append (j := 0) (o := q) (ds := ((gs.take i).map (rowI p cells)).map D.int) (fun _ _ _ z => (nomatch z)) ?_
    refine we_var rfl ⟨rfl, ⟨_, rfl⟩, ?_⟩
    have er : rowI p cells (z, x, y) = (if z = "+" then cells.getD x.toNat 0 + cells.getD y.toNat 0 else cells.getD x.toNat 0 * cells.getD y.toNat 0) % p := rfl
    have fin : (((gs.take i).map (rowI p cells)).map D.int) ++ [D.int (rowI p cells (z, x, y))] = ((gs.take (i + 1)).map (rowI p cells)).map D.int := by
      rw [List.take_add_one, hg, List.map_append, List.map_append]
      rfl
    have ln : (((gs.take i).map (rowI p cells)).map D.int).length < sizeLine := lt_size (by rw [List.length_map, List.length_map, List.length_take]; omega)
    refine we_op (we_if (wt_test (we_op (we_var rfl (we_str (rd_eq_str ⟨_, rfl, ?_⟩))))))
    refine brD (fun hz => ?_) (fun hz => ?_)
    · rw [if_pos hz] at er
      repeat (walk_at "s1")
      refine rd_mod (by omega) ?_
      rw [← er]
      refine ⟨rfl, ln, ?_⟩
      dsimp only [List.set]
      rw [fin]
      exact ⟨_, _, _, _, _, rfl⟩
    · rw [if_neg hz] at er
      repeat (walk_at "s1")
      refine rd_mul (mul_small (by omega) (by omega)) ?_
      repeat (walk_at "s1")
      refine rd_mod (by omega) ?_
      rw [← er]
      refine ⟨rfl, ln, ?_⟩
      dsimp only [List.set]
      rw [fin]
      exact ⟨_, _, _, _, _, rfl⟩
  · rintro ς ⟨x4, x5, x6, x7, x8, rfl⟩
    rw [List.length_map, List.take_length]
    refine ws_freeze (i := 3) (j := 0) rfl rfl rfl ?_
    repeat (walk_at "s1")
    exact ⟨ho, rfl⟩
end
end K54

set_option Elab.async false
set_option linter.all false
set_option maxRecDepth 100000
set_option maxHeartbeats 4000000
namespace K54
open PySem PySem.Spec PyProof.Rows L2 DL
section
variable {P : Program} {w : World} {K : PySem.W.Frag} {mg : Str → Option Value} {base : Heap} {A : Ad}
local macro_rules | `(tactic| walk_at "s0") => `(tactic| with_reducible first
  | refine ws_seq ?_ | refine ws_next ?_ | refine ws_ret ?_ | refine ws_retN ?_ | refine ws_if ?_ | refine ws_asg ?_ | refine ws_drop ?_ | refine ws_par ?_ | refine ws_break ?_ | refine ws_cont ?_
  | refine we_var rfl ?_ | refine we_int ?_ | refine we_non ?_ | refine we_bl ?_ | refine we_str ?_ | refine we_ty ?_ | refine we_dnew ?_ | refine we_op ?_ | refine we_un ?_
  | refine we_and ?_ | refine we_or ?_ | refine we_not ?_ | refine we_if ?_ | refine we_chain ?_ | refine we_cb ?_ | refine we_tup ?_ | refine we_lst ?_
  | refine wl_cons ?_ | refine wl_nil ?_ | refine wt_B ?_ | refine wt_test ?_ | refine wt_and ?_ | refine wt_or ?_ | refine wt_not ?_ | refine wt_yes ?_
  | refine wi_tup ?_ | refine wi_list ?_ | refine wg_tup rfl ?_ | refine wgs_cons ?_ | refine wgs_nil ?_
  | refine rd_add_int ?_ | refine rd_sub ?_ | refine rd_lt ?_ | refine rd_le ?_ | refine rd_gt ?_ | refine rd_ge ?_ | refine rd_eq_int ?_ | refine rd_ne_int ?_ | refine rd_eq_str ?_ | refine rd_ne_str ?_ | refine rd_eq_bl ?_ | refine rd_ne_bl ?_ | refine rd_is ?_ | refine rd_is_bl ?_ | refine rd_isnot ?_ | refine ru_neg ?_
  | refine rc_int ?_ | refine rc_abs ?_ | refine rc_anyF ?_ | refine rc_allF ?_
  | refine brT ?_ | refine brF ?_ | refine brT' ?_ | refine brF' ?_
  | refine ⟨_, rfl, ?_⟩)
set_option hygiene false in
local macro_rules | `(tactic| walk_at "s1") => `(tactic| first
  | refine we_isiLT ?_ | refine we_isiILT ?_ | refine wi_seqV (by rfl) (by rfl) ?_ | walk_at "s0" | refine ⟨true, by rfl, ?_⟩ | refine ⟨false, by rfl, ?_⟩ | refine we_ref ?_ | refine we_fld1 ?_ | refine ⟨_, _, _, _, rfl, T.n_Gates_prime, by rfl, ?_⟩ | refine ⟨_, _, _, _, rfl, T.n_Gates_rows, by rfl, ?_⟩ | refine ⟨_, _, _, _, rfl, T.n_Gates_worths, by rfl, ?_⟩ | refine ⟨_, _, _, _, rfl, T.n_Poly_prime, by rfl, ?_⟩ | refine ⟨_, _, _, _, rfl, T.n_Poly_row, by rfl, ?_⟩ | refine ⟨_, _, _, _, rfl, T.n_Layers_net, by rfl, ?_⟩ | refine ⟨_, _, _, _, rfl, T.n_Layers_prime, by rfl, ?_⟩ | refine ⟨_, _, _, _, rfl, T.n_Layers_begin, by rfl, ?_⟩ | refine ⟨_, _, _, _, rfl, T.n_Layers_lot, by rfl, ?_⟩ | refine ⟨_, _, _, _, rfl, T.n_Layers_sizes, by rfl, ?_⟩ | refine rc_isiB (r := true) (by rfl) ?_ | refine rc_isiO T.k_Gates ?_ | refine rc_isiN T.k_Gates (by rfl) ?_ | refine rc_isiO T.k_Poly ?_ | refine rc_isiN T.k_Poly (by rfl) ?_ | refine rc_isiO T.k_Layers ?_ | refine rc_isiN T.k_Layers (by rfl) ?_ | refine we_callF (by assumption) ?_ | refine we_callF (X := fun _ _ _ _ => False) xok0 ?_ | refine we_callFl (by assumption) ?_ | refine we_callFl (X := fun _ _ _ _ => False) xok0 ?_ | refine we_makeFl (by assumption) ?_ | refine we_makeFl (X := fun _ _ _ _ => False) xok0 ?_ | refine we_makeF (by assumption) ?_ | refine we_makeF (X := fun _ _ _ _ => False) xok0 ?_ | refine DX.ws_rs (by assumption) ?_ | refine wt_test ?_ | refine co_ret rfl (by rfl) ?_ | refine wg_nm (by rfl) ?_ | refine parB (by rfl) (by rfl) ?_ | refine szB (by rfl) ?_ | refine szL (by rfl) ?_ | refine brT2 (by rfl) ?_ | refine brF2 (by rfl) ?_ | refine brT3 (by rfl) ?_ | refine brF3 (by rfl) ?_ | refine rc_isiB (r := false) (by rfl) ?_)
/-! a net -/
abbrev bitsT : List (Int × Int) := [(1, 0), (2, 1), (4, 2)]
def lenOk (n : Nat) : Bool := (bitsT.map (·.1)).any fun k => decide (k = (n : Int))
def layOk (d : D) : Bool := isLst d && lenOk (itemsD d).length
def oddAt (f : D → Bool) : List D → Nat → Option Nat
  | [], _ => none
  | d :: l, i => if f d = true then oddAt f l (i + 1) else some i
theorem oddAt_step {f : D → Bool} {l : List D} {i : Nat} {d : D} (h : l[i]? = some d) : oddAt f (l.drop i) i = if f d = true then oddAt f (l.drop (i + 1)) (i + 1) else some i := by
  have hl : i < l.length := (List.getElem?_eq_some_iff.mp h).1
  rw [List.drop_eq_getElem_cons hl]
  have e : l[i] = d := Option.some.inj (by rw [← List.getElem?_eq_getElem hl]; exact h)
  rw [e]
  rfl
theorem oddAt_all {f : D → Bool} : ∀ {l : List D} {i : Nat}, oddAt f l i = none → ∀ d ∈ l, f d = true
  | [], _, _, _, h => absurd h (by simp)
  | d :: l, i, h, e, he => by
    have h : (if f d = true then oddAt f l (i + 1) else some i) = none := h
    by_cases hd : f d = true
    · rw [if_pos hd] at h
      rcases List.mem_cons.mp he with rfl | he
      · exact hd
      · exact oddAt_all h e he
    · rw [if_neg hd] at h
      cases h
def badG (sz : List Int) : List D → Nat → Option (Nat × Nat)
  | [], _ => none
  | d :: l, i => match oddAt (gateOk (sz.getD (i + 1) 0)) (itemsD d) 0 with
    | some j => some (i, j)
    | none => badG sz l (i + 1)
theorem badG_step {sz : List Int} {l : List D} {i : Nat} {d : D} (h : l[i]? = some d) : badG sz (l.drop i) i = match oddAt (gateOk (sz.getD (i + 1) 0)) (itemsD d) 0 with
    | some j => some (i, j)
    | none => badG sz (l.drop (i + 1)) (i + 1) := by
  have hl : i < l.length := (List.getElem?_eq_some_iff.mp h).1
  rw [List.drop_eq_getElem_cons hl]
  have e : l[i] = d := Option.some.inj (by rw [← List.getElem?_eq_getElem hl]; exact h)
  rw [e]
  rfl
theorem badG_all {sz : List Int} : ∀ {l : List D} {i : Nat}, badG sz l i = none → ∀ (j : Nat) (d : D), l[j]? = some d → oddAt (gateOk (sz.getD (i + j + 1) 0)) (itemsD d) 0 = none
  | [], _, _, _, _, h => by simp at h
  | d :: l, i, h, j, e, he => by
    have h : (match oddAt (gateOk (sz.getD (i + 1) 0)) (itemsD d) 0 with
      | some j => some (i, j)
      | none => badG sz l (i + 1)) = none := h
    cases q : oddAt (gateOk (sz.getD (i + 1) 0)) (itemsD d) 0 with
    | some j => rw [q] at h; cases h
    | none =>
      rw [q] at h
      cases j with
      | zero =>
        have e1 : d = e := by simpa using he
        rw [← e1]
        exact q
      | succ j =>
        have z := badG_all h j e (by simpa using he)
        have e2 : i + 1 + j + 1 = i + (j + 1) + 1 := by omega
        rw [← e2]
        exact z
def lenI (d : D) : Int := ((itemsD d).length : Int)
def szL (ls : List D) (I : D) : List Int := ls.map lenI ++ [lenI I]
/-- the gate told -/
def gtD (d : D) : Gt := match itemsD d with
  | [.str z, .int x, .int y] => (z, x, y)
  | _ => ("", 0, 0)
theorem gate_gt {n : Int} {d : D} (h : gateOk n d = true) : itemsD d = [.str (gtD d).1, .int (gtD d).2.1, .int (gtD d).2.2] ∧ (0 ≤ (gtD d).2.1 ∧ (gtD d).2.1 < n) ∧ 0 ≤ (gtD d).2.2 ∧ (gtD d).2.2 < n := by
  obtain ⟨h1, h2⟩ := Bool.and_eq_true_iff.mp h
  unfold gtD
  generalize itemsD d = l at h2
  match l, h2 with
  | [x, y, z], h2 =>
    obtain ⟨h3, h4⟩ := Bool.and_eq_true_iff.mp h2
    obtain ⟨h5, h6⟩ := Bool.and_eq_true_iff.mp h4
    cases x <;> first | (cases h3; done) | skip
    cases y <;> first | (cases h5; done) | skip
    cases z <;> first | (cases h6; done) | skip
    obtain ⟨a1, a2⟩ := Bool.and_eq_true_iff.mp h5
    obtain ⟨a3, a4⟩ := Bool.and_eq_true_iff.mp h6
    exact ⟨rfl, ⟨of_decide_eq_true a1, of_decide_eq_true a2⟩, of_decide_eq_true a3, of_decide_eq_true a4⟩
/-- the layers' numbers, the inputs' behind them -/
def worL (p : Int) (inp : List Int) : List (List Gt) → List (List Int)
  | [] => [inp]
  | gs :: l => gs.map (rowI p ((worL p inp l).headD [])) :: worL p inp l
def rowsD (rs : List (List Gt)) : D := .lst (rs.map fun gs => .lst (gs.map tD))
def worD (ws : List (List Int)) : D := .lst (ws.map iL)
def gtsL (ls : List D) : List (List Gt) := ls.map fun d => (itemsD d).map gtD
abbrev netD (A : Ad) (p : Int) (rs : List (List Gt)) (ws : List (List Int)) : D := .obj A.Gates ["prime", "rows", "worths"] [.int p, rowsD rs, worD ws]
def intsD : D → List Int
  | .lst l => l.map dI
  | .tup l => l.map dI
  | _ => []
def gGatesB (A : Ad) (d L I : D) : OutI := match d with
  | .int p => if isPrm p = true then (match L with
    | .lst ls => if ls.isEmpty = true then .exc A.BadLayer ["index"] [.int 0] else (match oddAt layOk ls 0 with
      | some i => .exc A.BadLayer ["index"] [.int (i : Nat)]
      | none => if (isNon (oddD I) && lenOk (itemsD I).length) = true then (match badG (szL ls I) ls 0 with
        | some ij => .exc A.BadGate ["layer", "index"] [.int (ij.1 : Nat), .int (ij.2 : Nat)]
        | none => .ok ["prime", "rows", "worths"] [.int p, rowsD (gtsL ls), worD (worL p ((intsD I).map fun x => x % p) (gtsL ls))]) else .exc A.BadInputs ["inputs"] [I])
    | _ => .exc A.BadLayer ["index"] [.int 0]) else .exc A.BadPrime ["prime"] [d]
  | _ => .exc A.BadPrime ["prime"] [d]
def layT (d : D) : Bool := match d with
  | .lst l => decide (l.length ≤ 100) && l.all okO
  | .tup _ => false
  | _ => (tyN d).isSome
def domL (L : D) : Bool := match L with
  | .lst ls => decide (ls.length ≤ 20) && ls.all layT
  | .tup _ => false
  | _ => (tyN L).isSome
def gGates (A : Ad) : List D → Option OutI
  | [d, L, I] => if ((tyN d).isSome && (domL L && okO I)) = true then some (gGatesB A d L I) else none
  | _ => none
theorem layT_ty {d : D} (h : layT d = true) : (tyN d).isSome = true := by
  cases d <;> first | rfl | (cases h; done) | exact h
end
end K54

set_option Elab.async false
set_option linter.all false
set_option maxRecDepth 100000
set_option maxHeartbeats 4000000
namespace K54
open PySem PySem.Spec PyProof.Rows L2 DL
section
variable {P : Program} {w : World} {K : PySem.W.Frag} {mg : Str → Option Value} {base : Heap} {A : Ad}
local macro_rules | `(tactic| walk_at "s0") => `(tactic| with_reducible first
  | refine ws_seq ?_ | refine ws_next ?_ | refine ws_ret ?_ | refine ws_retN ?_ | refine ws_if ?_ | refine ws_asg ?_ | refine ws_drop ?_ | refine ws_par ?_ | refine ws_break ?_ | refine ws_cont ?_
  | refine we_var rfl ?_ | refine we_int ?_ | refine we_non ?_ | refine we_bl ?_ | refine we_str ?_ | refine we_ty ?_ | refine we_dnew ?_ | refine we_op ?_ | refine we_un ?_
  | refine we_and ?_ | refine we_or ?_ | refine we_not ?_ | refine we_if ?_ | refine we_chain ?_ | refine we_cb ?_ | refine we_tup ?_ | refine we_lst ?_
  | refine wl_cons ?_ | refine wl_nil ?_ | refine wt_B ?_ | refine wt_test ?_ | refine wt_and ?_ | refine wt_or ?_ | refine wt_not ?_ | refine wt_yes ?_
  | refine wi_tup ?_ | refine wi_list ?_ | refine wg_tup rfl ?_ | refine wgs_cons ?_ | refine wgs_nil ?_
  | refine rd_add_int ?_ | refine rd_sub ?_ | refine rd_lt ?_ | refine rd_le ?_ | refine rd_gt ?_ | refine rd_ge ?_ | refine rd_eq_int ?_ | refine rd_ne_int ?_ | refine rd_eq_str ?_ | refine rd_ne_str ?_ | refine rd_eq_bl ?_ | refine rd_ne_bl ?_ | refine rd_is ?_ | refine rd_is_bl ?_ | refine rd_isnot ?_ | refine ru_neg ?_
  | refine rc_int ?_ | refine rc_abs ?_ | refine rc_anyF ?_ | refine rc_allF ?_
  | refine brT ?_ | refine brF ?_ | refine brT' ?_ | refine brF' ?_
  | refine ⟨_, rfl, ?_⟩)
set_option hygiene false in
local macro_rules | `(tactic| walk_at "s1") => `(tactic| first
  | refine we_isiLT ?_ | refine we_isiILT ?_ | refine wi_seqV (by rfl) (by rfl) ?_ | walk_at "s0" | refine ⟨true, by rfl, ?_⟩ | refine ⟨false, by rfl, ?_⟩ | refine we_ref ?_ | refine we_fld1 ?_ | refine ⟨_, _, _, _, rfl, T.n_Gates_prime, by rfl, ?_⟩ | refine ⟨_, _, _, _, rfl, T.n_Gates_rows, by rfl, ?_⟩ | refine ⟨_, _, _, _, rfl, T.n_Gates_worths, by rfl, ?_⟩ | refine ⟨_, _, _, _, rfl, T.n_Poly_prime, by rfl, ?_⟩ | refine ⟨_, _, _, _, rfl, T.n_Poly_row, by rfl, ?_⟩ | refine ⟨_, _, _, _, rfl, T.n_Layers_net, by rfl, ?_⟩ | refine ⟨_, _, _, _, rfl, T.n_Layers_prime, by rfl, ?_⟩ | refine ⟨_, _, _, _, rfl, T.n_Layers_begin, by rfl, ?_⟩ | refine ⟨_, _, _, _, rfl, T.n_Layers_lot, by rfl, ?_⟩ | refine ⟨_, _, _, _, rfl, T.n_Layers_sizes, by rfl, ?_⟩ | refine rc_isiB (r := true) (by rfl) ?_ | refine rc_isiO T.k_Gates ?_ | refine rc_isiN T.k_Gates (by rfl) ?_ | refine rc_isiO T.k_Poly ?_ | refine rc_isiN T.k_Poly (by rfl) ?_ | refine rc_isiO T.k_Layers ?_ | refine rc_isiN T.k_Layers (by rfl) ?_ | refine we_callF (by assumption) ?_ | refine we_callF (X := fun _ _ _ _ => False) xok0 ?_ | refine we_callFl (by assumption) ?_ | refine we_callFl (X := fun _ _ _ _ => False) xok0 ?_ | refine we_makeFl (by assumption) ?_ | refine we_makeFl (X := fun _ _ _ _ => False) xok0 ?_ | refine we_makeF (by assumption) ?_ | refine we_makeF (X := fun _ _ _ _ => False) xok0 ?_ | refine DX.ws_rs (by assumption) ?_ | refine wt_test ?_ | refine co_ret rfl (by rfl) ?_ | refine wg_nm (by rfl) ?_ | refine parB (by rfl) (by rfl) ?_ | refine szB (by rfl) ?_ | refine szL (by rfl) ?_ | refine brT2 (by rfl) ?_ | refine brF2 (by rfl) ?_ | refine brT3 (by rfl) ?_ | refine brF3 (by rfl) ?_ | refine rc_isiB (r := false) (by rfl) ?_)
theorem worL_len {p : Int} {inp : List Int} : ∀ l : List (List Gt), ((worL p inp l).headD []).length = (l.head?.map List.length).getD inp.length
  | [] => rfl
  | gs :: l => by
    show (gs.map _).length = gs.length
    rw [List.length_map]
theorem worL_bd {p : Int} {inp : List Int} (hp : 0 < p) (h : ∀ y ∈ inp, 0 ≤ y ∧ y < p) : ∀ l : List (List Gt), ∀ y ∈ (worL p inp l).headD [], 0 ≤ y ∧ y < p
  | [], y, hy => h y hy
  | gs :: l, y, hy => by
    have hy : y ∈ gs.map (rowI p ((worL p inp l).headD [])) := hy
    obtain ⟨g, _, rfl⟩ := List.mem_map.mp hy
    exact ⟨Int.emod_nonneg _ (by omega), Int.emod_lt_of_pos _ hp⟩
theorem worL_cons {p : Int} {inp : List Int} (l : List (List Gt)) : ∃ r ws, worL p inp l = r :: ws ∧ (worL p inp l).headD [] = r := by
  cases l with
  | nil => exact ⟨_, _, rfl, rfl⟩
  | cons gs l => exact ⟨_, _, rfl, rfl⟩
theorem worL_length {p : Int} {inp : List Int} : ∀ l : List (List Gt), (worL p inp l).length = l.length + 1
  | [] => rfl
  | gs :: l => by
    show (worL p inp l).length + 1 = _
    rw [worL_length l]
    rfl
theorem sz_get {ls : List D} {I : D} {i : Nat} (hi : i < ls.length) : (szL ls I).getD (i + 1) 0 = ((((gtsL ls).drop (i + 1)).head?.map List.length).getD (itemsD I).length : Nat) := by
  have hg : (gtsL ls).drop (i + 1) = gtsL (ls.drop (i + 1)) := by unfold gtsL; rw [List.map_drop]
  rw [hg]
  unfold szL
  rw [List.getD_eq_getElem?_getD]
  by_cases h : i + 1 < ls.length
  · rw [List.getElem?_append_left (by rw [List.length_map]; exact h), List.getElem?_map, List.getElem?_eq_getElem h, List.drop_eq_getElem_cons h]
    show lenI ls[i + 1] = ((((itemsD ls[i + 1]).map gtD).length : Nat) : Int)
    rw [List.length_map]
    rfl
  · rw [List.getElem?_append_right (by rw [List.length_map]; omega), List.length_map, List.drop_of_length_le (by omega)]
    have e : i + 1 - ls.length = 0 := by omega
    rw [e]
    rfl
inductive IS (A : Ad) (o dx : Addr) (p : Int) (L I : D) : Sta → Prop
  | mk {x4 x5 x6 x7 x8 x9 x10 x11 x12 x13 : Option D} {b : Nat} : IS A o dx p L I { δ := [some (.ref o), some (.int p), some L, some I, x4, x5, x6, x7, x8, x9, x10, x11, x12, x13], m := [(o, .ins A.Gates dx [] [])], b := b }
inductive IZ (A : Ad) (o dx : Addr) (p : Int) (L I : D) (sz : List Int) : Sta → Prop
  | mk {x5 x6 x7 x8 x9 x10 x11 x12 x13 : Option D} {b : Nat} : IZ A o dx p L I sz { δ := [some (.ref o), some (.int p), some L, some I, some (iL sz), x5, x6, x7, x8, x9, x10, x11, x12, x13], m := [(o, .ins A.Gates dx [] [])], b := b }
inductive IY (A : Ad) (o dx : Addr) (p : Int) (L I : D) (sz : List Int) (i : Nat) (d : D) : Sta → Prop
  | mk {x5 x6 x7 x10 x11 x12 x13 : Option D} {b : Nat} : IY A o dx p L I sz i d { δ := [some (.ref o), some (.int p), some L, some I, some (iL sz), x5, x6, x7, some (.int (i : Int)), some d, x10, x11, x12, x13], m := [(o, .ins A.Gates dx [] [])], b := b }
inductive IW (A : Ad) (o dx : Addr) (p : Int) (rs : List (List Gt)) (ws : List (List Int)) : Sta → Prop
  | mk {x2 x3 x4 x7 x8 x9 x10 x11 x12 x13 : Option D} {b : Nat} : IW A o dx p rs ws { δ := [some (.ref o), some (.int p), x2, x3, x4, some (rowsD rs), some (worD ws), x7, x8, x9, x10, x11, x12, x13], m := [(o, .ins A.Gates dx [] [])], b := b }
theorem ints_I {I : D} (kI : okO I = true) (h : isNon (oddD I) = true) : ∃ xs : List Int, xs.length ≤ 1000 ∧ (I = .lst (xs.map D.int) ∨ I = .tup (xs.map D.int)) ∧ itemsD I = xs.map D.int ∧ intsD I = xs := by
  have ei : ∀ xs : List Int, (xs.map D.int).map dI = xs := fun xs => by
    rw [List.map_map]
    exact (List.map_congr_left fun _ _ => rfl).trans (List.map_id' xs)
  have key : ∀ l : List D, isNon (oddO (oddI l 0)) = true → ∃ xs : List Int, l = xs.map D.int := fun l h => by
    cases q : oddI l 0 with
    | none => exact ints_of q
    | some i => rw [q] at h; cases h
  cases I with
  | lst l =>
    obtain ⟨xs, rfl⟩ := key l h
    have := of_decide_eq_true (Bool.and_eq_true_iff.mp kI).1
    rw [List.length_map] at this
    exact ⟨xs, this, .inl rfl, rfl, ei xs⟩
  | tup l =>
    obtain ⟨xs, rfl⟩ := key l h
    have := of_decide_eq_true (Bool.and_eq_true_iff.mp kI).1
    rw [List.length_map] at this
    exact ⟨xs, this, .inr rfl, rfl, ei xs⟩
  | _ => cases h
set_option maxHeartbeats 32000000 in
theorem ok_Gates (T : Tx P K mg A) : MakX P w K mg base 3 "Gates" A.Gates (SpI K 4 A.Gates (spcI (gGates A))) := by
  have c_check_prime := @ok_check_prime P w K mg base A T
  have c_first_odd := @ok_first_odd P w K mg base A T
  have c_is_list := @ok_is_list P w K mg base A T
  have c_is_gate := @ok_is_gate P w K mg base A T
  have c_gate_row := @ok_gate_row P w K mg base A T
  obtain ⟨f, fd, M, F, bi⟩ := T.i_Gates
  refine ⟨f, fd, _, M, fnI F sc_Gates___init__ rfl (fun cdv A' outer sh H E hr => ⟨_, (pss_cons (ps_expr (pe_cx c_check_prime hr (by omega) (by rfl) (passes_call (takes_of rfl rfl rfl rfl) (fun _ _ _ _ z => z)) (pa_cons (pv 1) pa_nil)))
  (pss_cons (ps_if (PW.pt (pw_or (pt_not (pt_val (pe_cx c_is_list hr (by omega) (by rfl) (passes_call (takes_of rfl rfl rfl rfl) (fun _ _ _ _ z => z)) (pa_cons (pv 2) pa_nil)))) (pw_or1 (pt_cmpR (DK.op_eq (K := K) (hr.units)) (pe_callB (DK.len (K := K)) (by rfl) T.z_len (by decide +kernel) (pa_cons (pv 2) pa_nil)) pe_int (nomark _)))))
  (pss_one (DX.ps_rs (takes_of rfl rfl rfl rfl) T.x_BadLayer (by decide) (by decide) hr (pa_cons pe_int pa_nil)))
  pss_nil)
  (pss_cons (ps_for (passes_of rfl) rfl (DK.pi_enum2 (K := K) (by rfl) T.z_enumerate (pa_cons (pv 2) pa_nil)) (DK.pg_tup (K := K) rfl (pgs_cons (pg_name (i := 8) sc_Gates___init__.nd rfl (by first | exact .inl rfl | exact .inr rfl)) (pgs_cons (pg_name (i := 9) sc_Gates___init__.nd rfl (by first | exact .inl rfl | exact .inr rfl)) pgs_nil)))
  (pss_one (ps_if (PW.pt (pw_or (pt_not (pt_val (pe_cx c_is_list hr (by omega) (by rfl) (passes_call (takes_of rfl rfl rfl rfl) (fun _ _ _ _ z => z)) (pa_cons (pv 9) pa_nil)))) (pw_or1 (pt_cmpR (DK.op_tabNin (T.v_BITS).2 (by decide)) (pe_callB (DK.len (K := K)) (by rfl) T.z_len (by decide +kernel) (pa_cons (pv 9) pa_nil)) (pe_glob (v := V.ref _) (by rfl) (T.v_BITS).1 rfl) (by rfl)))))
  (pss_one (DX.ps_rs (takes_of rfl rfl rfl rfl) T.x_BadLayer (by decide) (by decide) hr (pa_cons (pv 8) pa_nil)))
  pss_nil)))
  (pss_cons (ps_if (PW.pt (pw_or (pt_cmpR op_isnotK (pe_cx c_first_odd hr (by omega) (by rfl) (passes_call (takes_of rfl rfl rfl rfl) (fun _ _ _ _ z => z)) (pa_cons (pv 3) pa_nil)) pe_non (nomark _)) (pw_or1 (pt_cmpR (DK.op_tabNin (T.v_BITS).2 (by decide)) (pe_callB (DK.len (K := K)) (by rfl) T.z_len (by decide +kernel) (pa_cons (pv 3) pa_nil)) (pe_glob (v := V.ref _) (by rfl) (T.v_BITS).1 rfl) (by rfl)))))
  (pss_one (DX.ps_rs (takes_of rfl rfl rfl rfl) T.x_BadInputs (by decide) (by decide) hr (pa_cons (pv 3) pa_nil)))
  pss_nil)
  (pss_cons (ps_asg (pe_op (DK.op_add (K := K)) (pe_lc (own := [("layer", 9)]) (g := (gName 9)) (tt := tYes) rfl sc_Gates___init__.nd (DK.pi_seq (K := K) (pv 2)) (blkOk_by (own := [("layer", 9)]) (N := n_Gates___init__) (sc := (defScope s_Gates___init__)) (by first | decide +kernel | kernel_rfl)) (fun _ _ _ _ _ => (pg_name (i := 9) sc_Gates___init__.nd rfl (by first | exact .inl rfl | exact .inr rfl))) (fun _ _ _ _ _ => pts_nil) (fun _ _ _ _ _ => (pe_callB (DK.len (K := K)) (by rfl) T.z_len (by decide +kernel) (pa_cons (pv 9) pa_nil)))) (pe_lst (pa_cons (pe_callB (DK.len (K := K)) (by rfl) T.z_len (by decide +kernel) (pa_cons (pv 3) pa_nil)) pa_nil))) (pg_name (i := 4) sc_Gates___init__.nd rfl (by first | exact .inl rfl | exact .inr rfl)))
  (pss_cons (ps_for (passes_of rfl) rfl (DK.pi_enum2 (K := K) (by rfl) T.z_enumerate (pa_cons (pv 2) pa_nil)) (DK.pg_tup (K := K) rfl (pgs_cons (pg_name (i := 8) sc_Gates___init__.nd rfl (by first | exact .inl rfl | exact .inr rfl)) (pgs_cons (pg_name (i := 9) sc_Gates___init__.nd rfl (by first | exact .inl rfl | exact .inr rfl)) pgs_nil)))
  (pss_one (ps_for (passes_of rfl) rfl (DK.pi_enum2 (K := K) (by rfl) T.z_enumerate (pa_cons (pv 9) pa_nil)) (DK.pg_tup (K := K) rfl (pgs_cons (pg_name (i := 10) sc_Gates___init__.nd rfl (by first | exact .inl rfl | exact .inr rfl)) (pgs_cons (pg_name (i := 11) sc_Gates___init__.nd rfl (by first | exact .inl rfl | exact .inr rfl)) pgs_nil)))
  (pss_one (ps_if (pt_not (pt_val (pe_cx c_is_gate hr (by omega) (by rfl) (passes_call (takes_of rfl rfl rfl rfl) (fun _ _ _ _ z => z)) (pa_cons (pv 11) (pa_cons (pe_ix (DK.ix (K := K)) (pv 4) (pe_op (DK.op_add (K := K)) (pv 8) pe_int) (fun _ _ => rfl)) pa_nil)))))
  (pss_one (DX.ps_rs (takes_of rfl rfl rfl rfl) T.x_BadGate (by decide) (by decide) hr (pa_cons (pv 8) (pa_cons (pv 10) pa_nil))))
  pss_nil)))))
  (pss_cons (ps_setLc (i := 5) (own := [("layer", 9)]) (g := (gName 9)) (tt := tYes) rfl sc_Gates___init__.nd rfl rfl (sw_true rfl rfl rfl (by decide +kernel)) (DK.pi_seq (K := K) (pv 2)) (blkOk_by (own := [("layer", 9)]) (N := n_Gates___init__) (sc := (defScope s_Gates___init__)) (by first | decide +kernel | kernel_rfl)) (fun _ _ _ _ _ => (pg_name (i := 9) sc_Gates___init__.nd rfl (by first | exact .inl rfl | exact .inr rfl))) (fun _ _ _ _ _ => pts_nil) (fun _ _ _ _ _ => (pe_lc (own := [("gate", 12)]) (g := (gName 12)) (tt := tYes) rfl sc_Gates___init__.nd (DK.pi_seq (K := K) (pv 9)) (blkOk_by (own := [("gate", 12)]) (N := n_Gates___init__) (sc := _) (by first | decide +kernel | kernel_rfl)) (fun _ _ _ _ _ => (pg_name (i := 12) sc_Gates___init__.nd rfl (by first | exact .inl rfl | exact .inr rfl))) (fun _ _ _ _ _ => pts_nil) (fun _ _ _ _ _ => (pe_callTy (DK.tup (K := K)) (by rfl) T.z_tuple (by decide +kernel) (pa_cons (pv 12) pa_nil))))))
  (pss_cons (ps_asg (pe_lst (pa_cons (pe_lc (own := [("number", 13)]) (g := (gName 13)) (tt := tYes) rfl sc_Gates___init__.nd (DK.pi_seq (K := K) (pv 3)) (blkOk_by (own := [("number", 13)]) (N := n_Gates___init__) (sc := (defScope s_Gates___init__)) (by first | decide +kernel | kernel_rfl)) (fun _ _ _ _ _ => (pg_name (i := 13) sc_Gates___init__.nd rfl (by first | exact .inl rfl | exact .inr rfl))) (fun _ _ _ _ _ => pts_nil) (fun _ _ _ _ _ => (pe_op op_modK (pv 13) (pv 1)))) pa_nil)) (pg_name (i := 6) sc_Gates___init__.nd rfl (by first | exact .inl rfl | exact .inr rfl)))
  (pss_cons (ps_for (passes_of rfl) rfl (DK.pi_seq (K := K) (DK.pe_revL (K := K) (pv 5))) (pg_name (i := 7) sc_Gates___init__.nd rfl (by first | exact .inl rfl | exact .inr rfl))
  (pss_one (ps_asg (pe_op (DK.op_add (K := K)) (pe_lst (pa_cons (pe_cx c_gate_row hr (by omega) (by rfl) (passes_call (takes_of rfl rfl rfl rfl) (fun _ _ _ _ z => z)) (pa_cons (pv 7) (pa_cons (pe_ix (DK.ix (K := K)) (pv 6) pe_int (fun _ _ => rfl)) (pa_cons (pv 1) pa_nil)))) pa_nil)) (pv 6)) (pg_name (i := 6) sc_Gates___init__.nd rfl (by first | exact .inl rfl | exact .inr rfl)))))
  (pss_cons (ps_fld (pv 0) (pv 1) rfl)
  (pss_cons (ps_fld (pv 0) (pv 5) rfl)
  (pss_one (ps_fld (pv 0) (pv 6) rfl))))))))))))), fun o dx k0 ds hp hl hE => ?_⟩), T.m_Gates, bi⟩
  obtain ⟨oo, ho⟩ := hp
  obtain ⟨d, L, I, rfl⟩ : ∃ d L I, ds = [d, L, I] := by
    match ds, hl with
    | [d, L, I], _ => exact ⟨d, L, I, rfl⟩
  have hx := xok_init hE
  have hX := xokW hx
  have kk : (tyN d).isSome = true ∧ domL L = true ∧ okO I = true := by
    by_cases h : ((tyN d).isSome && (domL L && okO I)) = true
    · obtain ⟨h1, h2⟩ := Bool.and_eq_true_iff.mp h
      exact ⟨h1, Bool.and_eq_true_iff.mp h2⟩
    · have z : gGates A [d, L, I] = none := if_neg h
      rw [z] at ho
      cases ho
  obtain ⟨kd, kL, kI⟩ := kk
  have eg : gGates A [d, L, I] = some (gGatesB A d L I) := if_pos (by rw [kd, kL, kI]; rfl)
  have bad : ∀ {C : Addr} {ns : List Str} {fs : List D}, gGatesB A d L I = .exc C ns fs → gGates A [d, L, I] = some (.exc C ns fs) := fun z => by rw [eg, z]
  repeat (walk_at "s1")
  cases h0 : isIntD d with
  | false =>
    refine co_exc rfl (gPrime_bad kd h0) (bad ?_)
    cases d <;> first | rfl | (cases h0; done)
  | true =>
    obtain ⟨p, rfl⟩ : ∃ p, d = .int p := by cases d <;> first | exact ⟨_, rfl⟩ | cases h0
    refine co_if rfl gPrime_int (fun h1 => .ret ?_) (fun h1 => .exc (bad (by simp [gGatesB, h1])))
    obtain ⟨p1, p2⟩ := prm_le h1
    repeat (walk_at "s1")
    have tL : (tyN L).isSome = true := by cases L <;> first | rfl | (cases kL; done) | exact kL
    refine co_ret rfl (gIsList_eq tL) ?_
    cases hL : isLst L with
    | false =>
      repeat (walk_at "s1")
      refine ⟨rfl, bad ?_⟩
      cases L <;> first | (cases hL; done) | (simp [gGatesB, h1]; done)
    | true =>
      obtain ⟨ls, rfl⟩ : ∃ ls, L = .lst ls := by
        cases L with
        | lst ls => exact ⟨ls, rfl⟩
        | tup l => cases kL
        | _ => cases hL
      obtain ⟨kl1, kl2⟩ := Bool.and_eq_true_iff.mp kL
      have kl1 := of_decide_eq_true kl1
      have kl2 := List.all_eq_true.mp kl2
      repeat (walk_at "s1")
      refine rc_len (l := ls) rfl ?_
      repeat (walk_at "s1")
      refine ⟨fun hz => ?_, fun hz => ?_⟩
      · have hz : ls = [] := List.length_eq_zero_iff.mp (by have := of_decide_eq_true hz; omega)
        subst hz
        repeat (walk_at "s1")
        exact ⟨rfl, bad (by simp [gGatesB, h1])⟩
      have hne : ls.isEmpty = false := by
        cases ls with
        | nil => cases hz
        | cons x l => rfl
      have hd1 : gGatesB A (.int p) (.lst ls) I = match oddAt layOk ls 0 with
          | some i => .exc A.BadLayer ["index"] [.int (i : Nat)]
          | none => if (isNon (oddD I) && lenOk (itemsD I).length) = true then (match badG (szL ls I) ls 0 with
            | some ij => .exc A.BadGate ["layer", "index"] [.int (ij.1 : Nat), .int (ij.2 : Nat)]
            | none => .ok ["prime", "rows", "worths"] [.int p, rowsD (gtsL ls), worD (worL p ((intsD I).map fun x => x % p) (gtsL ls))]) else .exc A.BadInputs ["inputs"] [I] := by
        unfold gGatesB
        dsimp only
        rw [if_pos h1, hne]
        rfl
      refine ws_next ?_
      refine ws_cut (fun ς => IS A o dx p (.lst ls) I ς ∧ oddAt layOk ls 0 = none) ?_ ?_
      · refine ws_for (wi_enumL (wl_cons (we_var rfl (wl_nil ⟨ls, rfl, ?_⟩))))
        refine ⟨fun i ς => IS A o dx p (.lst ls) I ς ∧ oddAt layOk (ls.drop i) i = oddAt layOk ls 0, ⟨.mk (x4 := none), rfl⟩, ?_, ?_⟩
        · rintro i e ς hi ⟨⟨⟩, ej⟩
          obtain ⟨y, hy, rfl⟩ := enumD_get hi
          have ky := kl2 y (List.mem_of_getElem? hy)
          have st := oddAt_step (f := layOk) hy
          rw [ej] at st
          refine wg_tup rfl ?_
          repeat (walk_at "s1")
          refine co_ret rfl (gIsList_eq (layT_ty ky)) ?_
          cases hy1 : isLst y with
          | false =>
            have e0 : ¬ layOk y = true := by
              unfold layOk
              rw [hy1]
              exact Bool.false_ne_true
            rw [if_neg e0] at st
            repeat (walk_at "s1")
            exact ⟨rfl, bad (by rw [hd1, st])⟩
          | true =>
            obtain ⟨l, rfl⟩ : ∃ l, y = .lst l := by
              cases y with
              | lst l => exact ⟨l, rfl⟩
              | tup l => cases ky
              | _ => cases hy1
            have e0 : layOk (.lst l) = lenOk l.length := rfl
            rw [e0] at st
            repeat (walk_at "s1")
            refine rc_len (l := l) rfl ?_
            refine we_ref ?_
            refine rd_tabNin ?_
            have e1 : ((bitsT.map (·.1)).any fun k => decide (k = (l.length : Int))) = lenOk l.length := rfl
            rw [e1]
            cases hl2 : lenOk l.length with
            | false =>
              rw [hl2, if_neg Bool.false_ne_true] at st
              repeat (walk_at "s1")
              exact ⟨rfl, bad (by rw [hd1, st])⟩
            | true =>
              rw [hl2, if_pos rfl] at st
              repeat (walk_at "s1")
              exact ⟨.mk, st.symm⟩
        · rintro ς ⟨⟨⟩, ej⟩
          have ez : ls.drop (enumD ls).length = [] := by
            unfold enumD
            rw [List.length_mapIdx]
            exact List.drop_length
          rw [ez] at ej
          exact ⟨.mk, ej.symm⟩
      rintro ς ⟨⟨⟩, e1⟩
      rw [e1] at hd1
      dsimp only at hd1
      have lay := oddAt_all e1
      -- inputs
      have badI : ∀ {ς : Sta}, (isNon (oddD I) && lenOk (itemsD I).length) = false → gGates A [.int p, .lst ls, I] = some (.exc A.BadInputs ["inputs"] [I]) := fun {ς} h => bad (by rw [hd1, if_neg (by rw [h]; exact Bool.false_ne_true)])
      refine ws_cut (fun ς => IS A o dx p (.lst ls) I ς ∧ (isNon (oddD I) && lenOk (itemsD I).length) = true) ?_ ?_
      · refine ws_if (wt_or (wt_test (we_op (we_callFl (X := fun _ _ _ _ => False) xok0 (wl_cons (we_var rfl (wl_nil (co_ret rfl (show gOdd [I] = some (.ret (oddD I)) from if_pos kI) ?_))))))))
        refine we_non (rd_isnot ?_)
        cases hn : isNon (oddD I) with
        | false =>
          have e := badI (ς := { δ := [] }) (by rw [hn]; rfl)
          repeat (walk_at "s1")
          exact ⟨rfl, e⟩
        | true =>
          obtain ⟨xs, lx, es, ei, _⟩ := ints_I kI hn
          have sq : seqOf I = some (xs.map D.int) := by rcases es with rfl | rfl <;> rfl
          refine ⟨false, rfl, ?_⟩
          refine ⟨fun _ => ?_, fun z => (nomatch z)⟩
          refine wt_test (we_op (we_cb (wl_cons (we_var rfl (wl_nil (rc_len sq ?_))))))
          refine we_ref (rd_tabNin ?_)
          have e1 : ((bitsT.map (·.1)).any fun k => decide (k = ((xs.map D.int).length : Int))) = lenOk (itemsD I).length := by rw [ei]; rfl
          rw [e1]
          cases hl2 : lenOk (itemsD I).length with
          | false =>
            have e := badI (ς := { δ := [] }) (by rw [hn, hl2]; rfl)
            repeat (walk_at "s1")
            exact ⟨rfl, e⟩
          | true =>
            repeat (walk_at "s1")
            exact ⟨.mk, rfl⟩
      rintro ς ⟨⟨⟩, e2⟩
      rw [if_pos e2] at hd1
      obtain ⟨e3, e4⟩ := Bool.and_eq_true_iff.mp e2
      obtain ⟨xs, lx, es, ei, ej⟩ := ints_I kI e3
      have sq : seqOf I = some (xs.map D.int) := by rcases es with rfl | rfl <;> rfl
      have isl : ∀ {d : D}, d ∈ ls → ∃ l, d = .lst l ∧ l.length ≤ 100 ∧ (∀ g ∈ l, okO g = true) := fun {d} hd => by
        have k1 := kl2 d hd
        have k2 := lay d hd
        cases d with
        | lst l =>
          obtain ⟨a1, a2⟩ := Bool.and_eq_true_iff.mp k1
          exact ⟨l, rfl, of_decide_eq_true a1, List.all_eq_true.mp a2⟩
        | tup l => cases k1
        | _ => cases k2
      -- sizes
      refine ws_cut (IZ A o dx p (.lst ls) I (szL ls I)) ?_ ?_
      · refine ws_asg (we_op (we_lcM (kg_name (by decide)) (wi_seqV (by rfl) (by rfl) ?_)))
        refine ⟨fun d => .int (lenI d), lt_size (by omega), fun d hd oo acc => ?_, ?_⟩
        · obtain ⟨l, rfl, _, _⟩ := isl hd
          refine wg_nm (by rfl) ?_
          repeat (walk_at "s1")
          refine rc_len (l := l) rfl ?_
          exact ⟨rfl, rfl, rfl⟩
        · repeat (walk_at "s1")
          refine rc_len sq ?_
          repeat (walk_at "s1")
          refine rd_add_lst (by rw [List.length_map, sizeLine_eq]; show _ + 1 ≤ _; omega) ?_
          refine wg_nm (by rfl) ?_
          dsimp only [List.set]
          have e5 : ls.map (fun d => D.int (lenI d)) ++ [D.int ((xs.map D.int).length : Int)] = (szL ls I).map D.int := by
            unfold szL
            rw [List.map_append, List.map_map]
            show _ = _ ++ [D.int ((itemsD I).length : Int)]
            rw [ei]
            rfl
          rw [e5]
          exact .mk
      rintro ς ⟨⟩
      have szl : (szL ls I).length = ls.length + 1 := by
        unfold szL
        rw [List.length_append, List.length_map]
        rfl
      generalize hsz : szL ls I = sz at hd1 szl
      refine ws_cut (fun ς => IZ A o dx p (.lst ls) I sz ς ∧ badG sz ls 0 = none) ?_ ?_
      · refine ws_for (wi_enumL (wl_cons (we_var rfl (wl_nil ⟨ls, rfl, ?_⟩))))
        refine ⟨fun i ς => IZ A o dx p (.lst ls) I sz ς ∧ badG sz (ls.drop i) i = badG sz ls 0, ⟨.mk, rfl⟩, ?_, ?_⟩
        · rintro i e ς hi ⟨⟨⟩, ej⟩
          obtain ⟨y, hy, rfl⟩ := enumD_get hi
          have il := (List.getElem?_eq_some_iff.mp hy).1
          obtain ⟨l, rfl, ll, lg⟩ := isl (List.mem_of_getElem? hy)
          have st := badG_step (sz := sz) hy
          rw [ej] at st
          have et : itemsD (.lst l) = l := rfl
          rw [et] at st
          refine wg_tup rfl (wgs_cons (wg_nm (by rfl) (wgs_cons (wg_nm (by rfl) (wgs_nil ?_)))))
          dsimp only [List.set]
          refine ws_for (wi_enumL (wl_cons (we_var rfl (wl_nil ⟨l, rfl, ?_⟩))))
          refine ⟨fun j ς => IY A o dx p (.lst ls) I sz i (.lst l) ς ∧ oddAt (gateOk (sz.getD (i + 1) 0)) (l.drop j) j = oddAt (gateOk (sz.getD (i + 1) 0)) l 0, ⟨.mk, rfl⟩, ?_, ?_⟩
          · rintro j e ς hj ⟨⟨⟩, ek⟩
            obtain ⟨g, hg, rfl⟩ := enumD_get hj
            have st2 := oddAt_step (f := gateOk (sz.getD (i + 1) 0)) hg
            rw [ek] at st2
            refine wg_tup rfl (wgs_cons (wg_nm (by rfl) (wgs_cons (wg_nm (by rfl) (wgs_nil ?_)))))
            dsimp only [List.set]
            refine ws_if (wt_not (wt_B ?_))
            refine we_callF (X := fun _ _ _ _ => False) xok0 ?_
            refine wl_cons (we_var rfl (wl_cons (we_op (we_var rfl (we_op (we_var rfl (we_int ?_)))))))
            refine rd_add_int ?_
            have en : (i : Int) + 1 = ((i + 1 : Nat) : Int) := by omega
            rw [en]
            refine rd_ix (l := sz.map D.int) (d := .int (sz.getD (i + 1) 0)) rfl (DL.atI_nat (by rw [List.getElem?_map, List.getD_eq_getElem?_getD, List.getElem?_eq_getElem (by omega)]; rfl)) ?_
            refine wl_nil (co_ret rfl (show gGate [g, .int (sz.getD (i + 1) 0)] = some (.ret (.bl (gateOk (sz.getD (i + 1) 0) g))) from if_pos (lg g (List.mem_of_getElem? hg))) ?_)
            cases hgo : gateOk (sz.getD (i + 1) 0) g with
            | false =>
              rw [hgo, if_neg Bool.false_ne_true] at st2
              rw [st2] at st
              repeat (walk_at "s1")
              exact ⟨rfl, bad (by rw [hd1, st])⟩
            | true =>
              rw [hgo, if_pos rfl] at st2
              repeat (walk_at "s1")
              exact ⟨.mk, st2.symm⟩
          · rintro ς ⟨⟨⟩, ek⟩
            have ez : l.drop (enumD l).length = [] := by
              unfold enumD
              rw [List.length_mapIdx]
              exact List.drop_length
            rw [ez] at ek
            have ek : none = oddAt (gateOk (sz.getD (i + 1) 0)) l 0 := ek
            rw [← ek] at st
            exact ⟨.mk, st.symm⟩
        · rintro ς ⟨⟨⟩, ek⟩
          have ez : ls.drop (enumD ls).length = [] := by
            unfold enumD
            rw [List.length_mapIdx]
            exact List.drop_length
          rw [ez] at ek
          exact ⟨.mk, ek.symm⟩
      rintro ς ⟨⟨⟩, e6⟩
      rw [e6] at hd1
      dsimp only at hd1
      rw [ej] at hd1
      have gat : ∀ (i : Nat) (l : List D), ls[i]? = some (.lst l) → ∀ g ∈ l, gateOk (sz.getD (i + 1) 0) g = true := fun i l hi => by
        have z := badG_all e6 i _ hi
        rw [Nat.zero_add] at z
        exact oddAt_all z
      -- rows
      have rlen : (gtsL ls).length = ls.length := by unfold gtsL; rw [List.length_map]
      have gok : ∀ (i : Nat) (gs : List Gt), (gtsL ls)[i]? = some gs → gs.length ≤ 100 ∧ ∀ g ∈ gs, gtOk ((((gtsL ls).drop (i + 1)).head?.map List.length).getD (itemsD I).length) g := fun i gs hi => by
        unfold gtsL at hi
        rw [List.getElem?_map] at hi
        cases e : ls[i]? with
        | none => rw [e] at hi; cases hi
        | some d =>
          rw [e] at hi
          obtain ⟨l, rfl, ll, lg⟩ := isl (List.mem_of_getElem? e)
          have hi : l.map gtD = gs := Option.some.inj hi
          subst hi
          have il := (List.getElem?_eq_some_iff.mp e).1
          refine ⟨by rw [List.length_map]; exact ll, fun g hg => ?_⟩
          obtain ⟨y, hy, rfl⟩ := List.mem_map.mp hg
          obtain ⟨_, a1, a2⟩ := gate_gt (gat i l e y hy)
          rw [← hsz, sz_get il] at a1 a2
          exact ⟨a1, a2⟩
      have tup : ∀ {d : D}, d ∈ ls → ∀ g ∈ itemsD d, ∃ n, gateOk n g = true := fun {d} hd g hg => by
        obtain ⟨i, hi, ed⟩ := List.mem_iff_getElem.mp hd
        obtain ⟨l, rfl, _, _⟩ := isl hd
        exact ⟨_, gat i l (by rw [List.getElem?_eq_getElem hi, ed]) g hg⟩
      refine ws_seq (ws_asg (we_lcM (kg_name (by decide)) (wi_seqV (by rfl) (by rfl) ?_)))
      refine ⟨fun d => .lst (((itemsD d).map gtD).map tD), lt_size (by omega), fun d hd oo acc => ?_, ?_⟩
      · have tp := tup hd
        obtain ⟨l, rfl, ll, lg⟩ := isl hd
        refine wg_nm (by rfl) ?_
        refine we_lcM (kg_name (by decide)) (wi_seqV (by rfl) (by rfl) ?_)
        refine ⟨fun g => tD (gtD g), lt_size (by omega), fun g hg oo acc => ?_, ?_⟩
        · obtain ⟨n, gn⟩ := tp g hg
          obtain ⟨ig, _, _⟩ := gate_gt gn
          have sg : seqOf g = some [.str (gtD g).1, .int (gtD g).2.1, .int (gtD g).2.2] := by
            rw [← ig]
            obtain ⟨h1, _⟩ := Bool.and_eq_true_iff.mp gn
            cases g <;> first | rfl | cases h1
          refine wg_nm (by rfl) ?_
          repeat (walk_at "s1")
          refine rc_tup sg ?_
          exact ⟨rfl, rfl, rfl⟩
        · refine ⟨?_, rfl, rfl⟩
          show D.lst _ = D.lst ((l.map gtD).map tD)
          rw [List.map_map]
          rfl
      have er : D.lst (ls.map fun d => .lst (((itemsD d).map gtD).map tD)) = rowsD (gtsL ls) := by
        unfold rowsD gtsL
        rw [List.map_map]
        rfl
      rw [er]
      refine wg_nm (by rfl) ?_
      dsimp only [List.set]
      have einp : (xs.map D.int).map (fun d => D.int (dI d % p)) = (xs.map fun x => x % p).map D.int := by
        rw [List.map_map, List.map_map]
        rfl
      have inpb : ∀ y ∈ xs.map (fun x => x % p), 0 ≤ y ∧ y < p := fun y hy => by
        obtain ⟨x, _, rfl⟩ := List.mem_map.mp hy
        exact ⟨Int.emod_nonneg _ (by omega), Int.emod_lt_of_pos _ (by omega)⟩
      have inpl : (xs.map fun x => x % p).length = (itemsD I).length := by rw [ei, List.length_map, List.length_map]
      have fini : gGates A [.int p, .lst ls, I] = some (.ok ["prime", "rows", "worths"] [.int p, rowsD (gtsL ls), worD (worL p (xs.map fun x => x % p) (gtsL ls))]) := by rw [eg, hd1]
      generalize xs.map (fun x => x % p) = inp at einp inpb inpl fini
      generalize gtsL ls = rs at gok rlen fini
      refine ws_cut (IW A o dx p rs (worL p inp [])) ?_ ?_
      · refine ws_asg (we_lst (wl_cons (we_lcM (kg_name (by decide)) ?_)))
        rcases es with rfl | rfl
        all_goals
          refine wi_seqV (by rfl) (by rfl) ?_
          refine ⟨fun d => .int (dI d % p), lt_size (by rw [List.length_map]; omega), fun d hd oo acc => ?_, ?_⟩
          · obtain ⟨x, _, rfl⟩ := List.mem_map.mp hd
            refine wg_nm (by rfl) ?_
            repeat (walk_at "s1")
            refine rd_mod (by omega) ?_
            exact ⟨rfl, rfl, rfl⟩
          · rw [einp]
            refine wl_nil (szB rfl ?_)
            refine wg_nm (by rfl) ?_
            dsimp only [List.set]
            exact .mk
      rintro ς ⟨⟩
      refine ws_cut (IW A o dx p rs (worL p inp rs)) ?_ ?_
      · refine ws_for (wi_seqL (we_revL (we_var rfl ⟨_, rfl, _, rfl, ?_⟩)))
        refine ⟨fun i ς => IW A o dx p rs (worL p inp (rs.drop (rs.length - i))) ς, by dsimp only; rw [Nat.sub_zero, List.drop_length]; exact .mk, ?_, ?_⟩
        · rintro i d ς hi ⟨⟩
          have il : i < rs.length := by
            have := (List.getElem?_eq_some_iff.mp hi).1
            rw [List.length_reverse, List.length_map] at this
            exact this
          rw [List.getElem?_reverse (by rw [List.length_map]; exact il), List.length_map, List.getElem?_map] at hi
          obtain ⟨k, hk⟩ : ∃ k, k = rs.length - 1 - i := ⟨_, rfl⟩
          rw [← hk] at hi
          have kl : k < rs.length := by omega
          have ek : rs[k]? = some rs[k] := List.getElem?_eq_getElem kl
          rw [ek] at hi
          have hi : D.lst ((rs[k]).map tD) = d := Option.some.inj hi
          subst hi
          have e1 : rs.length - i = k + 1 := by omega
          have e2 : rs.length - (i + 1) = k := by omega
          have e3 : rs.drop k = rs[k] :: rs.drop (k + 1) := List.drop_eq_getElem_cons kl
          dsimp only
          rw [e1, e2, e3]
          obtain ⟨g1, g2⟩ := gok k _ ek
          obtain ⟨r, ws, ew, eh⟩ := worL_cons (p := p) (inp := inp) (rs.drop (k + 1))
          have hl := worL_len (p := p) (inp := inp) (rs.drop (k + 1))
          have hb := worL_bd (p := p) (inp := inp) (by omega) inpb (rs.drop (k + 1))
          rw [eh] at hl hb
          rw [inpl] at hl
          rw [← hl] at g2
          have gr := gRowG_eq (p := p) (cells := r) (gs := rs[k]) ⟨by omega, p2⟩ hb g1 g2
          have ewr : worL p inp (rs[k] :: rs.drop (k + 1)) = (rs[k]).map (rowI p r) :: worL p inp (rs.drop (k + 1)) := by
            show (rs[k]).map (rowI p ((worL p inp (rs.drop (k + 1))).headD [])) :: _ = _
            rw [eh]
          rw [ewr, ew]
          refine wg_nm (by rfl) ?_
          dsimp only [List.set]
          refine ws_asg (we_op (we_lst (wl_cons (we_callF (X := fun _ _ _ _ => False) xok0 ?_))))
          refine wl_cons (we_var rfl (wl_cons (we_op (we_var rfl (we_int ?_)))))
          refine rd_ix (l := (r :: ws).map iL) (d := iL r) rfl atI_0 ?_
          refine wl_cons (we_var rfl (wl_nil (co_ret rfl gr (wl_nil (szB rfl ?_)))))
          have lws := congrArg List.length ew
          rw [worL_length, List.length_drop, List.length_cons] at lws
          refine we_var rfl ?_
          refine rd_add_lst (by rw [sizeLine_eq]; simp only [List.length_map, List.length_cons, List.length_nil]; omega) ?_
          refine wg_nm (by rfl) ?_
          dsimp only [List.set]
          exact .mk
        · rintro ς ⟨⟩
          rw [List.length_reverse, List.length_map, Nat.sub_self, List.drop_zero]
          exact .mk
      rintro ς ⟨⟩
      refine ws_seq (ws_fld (j := 0) (o := o) (C := A.Gates) (dx := dx) (ns := []) (ds := []) (fun _ _ _ _ z => z) ?_)
      refine we_var rfl (we_var rfl ⟨rfl, rfl, T.n_Gates_prime.1, T.n_Gates_prime.2, by decide, ?_⟩)
      refine ws_seq (ws_fld (j := 0) (o := o) (C := A.Gates) (dx := dx) (ns := ["prime"]) (ds := [.int p]) (fun _ _ _ _ z => z) ?_)
      refine we_var rfl (we_var rfl ⟨rfl, rfl, T.n_Gates_rows.1, T.n_Gates_rows.2, by decide, ?_⟩)
      refine ws_fld (j := 0) (o := o) (C := A.Gates) (dx := dx) (ns := ["prime", "rows"]) (ds := [.int p, rowsD rs]) (fun _ _ _ _ z => z) ?_
      refine we_var rfl (we_var rfl ⟨rfl, rfl, T.n_Gates_worths.1, T.n_Gates_worths.2, by decide, ?_⟩)
      exact ⟨_, _, rfl, fini⟩
end
end K54

set_option Elab.async false
set_option linter.all false
set_option maxRecDepth 100000
set_option maxHeartbeats 4000000
namespace K54
open PySem PySem.Spec PyProof.Rows L2 DL
section
variable {P : Program} {w : World} {K : PySem.W.Frag} {mg : Str → Option Value} {base : Heap} {A : Ad}
local macro_rules | `(tactic| walk_at "s0") => `(tactic| with_reducible first
  | refine ws_seq ?_ | refine ws_next ?_ | refine ws_ret ?_ | refine ws_retN ?_ | refine ws_if ?_ | refine ws_asg ?_ | refine ws_drop ?_ | refine ws_par ?_ | refine ws_break ?_ | refine ws_cont ?_
  | refine we_var rfl ?_ | refine we_int ?_ | refine we_non ?_ | refine we_bl ?_ | refine we_str ?_ | refine we_ty ?_ | refine we_dnew ?_ | refine we_op ?_ | refine we_un ?_
  | refine we_and ?_ | refine we_or ?_ | refine we_not ?_ | refine we_if ?_ | refine we_chain ?_ | refine we_cb ?_ | refine we_tup ?_ | refine we_lst ?_
  | refine wl_cons ?_ | refine wl_nil ?_ | refine wt_B ?_ | refine wt_test ?_ | refine wt_and ?_ | refine wt_or ?_ | refine wt_not ?_ | refine wt_yes ?_
  | refine wi_tup ?_ | refine wi_list ?_ | refine wg_tup rfl ?_ | refine wgs_cons ?_ | refine wgs_nil ?_
  | refine rd_add_int ?_ | refine rd_sub ?_ | refine rd_lt ?_ | refine rd_le ?_ | refine rd_gt ?_ | refine rd_ge ?_ | refine rd_eq_int ?_ | refine rd_ne_int ?_ | refine rd_eq_str ?_ | refine rd_ne_str ?_ | refine rd_eq_bl ?_ | refine rd_ne_bl ?_ | refine rd_is ?_ | refine rd_is_bl ?_ | refine rd_isnot ?_ | refine ru_neg ?_
  | refine rc_int ?_ | refine rc_abs ?_ | refine rc_anyF ?_ | refine rc_allF ?_
  | refine brT ?_ | refine brF ?_ | refine brT' ?_ | refine brF' ?_
  | refine ⟨_, rfl, ?_⟩)
set_option hygiene false in
local macro_rules | `(tactic| walk_at "s1") => `(tactic| first
  | refine we_isiLT ?_ | refine we_isiILT ?_ | refine wi_seqV (by rfl) (by rfl) ?_ | walk_at "s0" | refine ⟨true, by rfl, ?_⟩ | refine ⟨false, by rfl, ?_⟩ | refine we_ref ?_ | refine we_fld1 ?_ | refine ⟨_, _, _, _, rfl, T.n_Gates_prime, by rfl, ?_⟩ | refine ⟨_, _, _, _, rfl, T.n_Gates_rows, by rfl, ?_⟩ | refine ⟨_, _, _, _, rfl, T.n_Gates_worths, by rfl, ?_⟩ | refine ⟨_, _, _, _, rfl, T.n_Poly_prime, by rfl, ?_⟩ | refine ⟨_, _, _, _, rfl, T.n_Poly_row, by rfl, ?_⟩ | refine ⟨_, _, _, _, rfl, T.n_Layers_net, by rfl, ?_⟩ | refine ⟨_, _, _, _, rfl, T.n_Layers_prime, by rfl, ?_⟩ | refine ⟨_, _, _, _, rfl, T.n_Layers_begin, by rfl, ?_⟩ | refine ⟨_, _, _, _, rfl, T.n_Layers_lot, by rfl, ?_⟩ | refine ⟨_, _, _, _, rfl, T.n_Layers_sizes, by rfl, ?_⟩ | refine rc_isiB (r := true) (by rfl) ?_ | refine rc_isiO T.k_Gates ?_ | refine rc_isiN T.k_Gates (by rfl) ?_ | refine rc_isiO T.k_Poly ?_ | refine rc_isiN T.k_Poly (by rfl) ?_ | refine rc_isiO T.k_Layers ?_ | refine rc_isiN T.k_Layers (by rfl) ?_ | refine we_callF (by assumption) ?_ | refine we_callF (X := fun _ _ _ _ => False) xok0 ?_ | refine we_callFl (by assumption) ?_ | refine we_callFl (X := fun _ _ _ _ => False) xok0 ?_ | refine we_makeFl (by assumption) ?_ | refine we_makeFl (X := fun _ _ _ _ => False) xok0 ?_ | refine we_makeF (by assumption) ?_ | refine we_makeF (X := fun _ _ _ _ => False) xok0 ?_ | refine DX.ws_rs (by assumption) ?_ | refine wt_test ?_ | refine co_ret rfl (by rfl) ?_ | refine wg_nm (by rfl) ?_ | refine parB (by rfl) (by rfl) ?_ | refine szB (by rfl) ?_ | refine szL (by rfl) ?_ | refine brT2 (by rfl) ?_ | refine brF2 (by rfl) ?_ | refine brT3 (by rfl) ?_ | refine brF3 (by rfl) ?_ | refine rc_isiB (r := false) (by rfl) ?_)
theorem rc_lenI {K : PySem.W.Frag} {Φ : D → Prop} {r : List Int} (q : Φ (.int (r.length : Int))) : RC K (rLenK K) [iL r] Φ := rc_len (l := r.map D.int) rfl (by rw [List.length_map]; exact q)
theorem map_inj' {α β : Type} {f : α → β} (h : ∀ a b, f a = f b → a = b) : ∀ {l m : List α}, l.map f = m.map f → l = m
  | [], [], _ => rfl
  | [], _ :: _, e => by cases e
  | _ :: _, [], e => by cases e
  | a :: l, b :: m, e => by
    injection e with e1 e2
    rw [h a b e1, map_inj' h e2]
theorem netD_inj {A : Ad} {p p' : Int} {rs rs' : List (List Gt)} {ws ws' : List (List Int)} (h : netD A p rs ws = netD A p' rs' ws') : p = p' ∧ rs = rs' ∧ ws = ws' := by
  injection h with _ _ h
  injection h with h1 h
  injection h with h2 h
  injection h with h3 _
  injection h1 with h1
  injection h2 with h2
  injection h3 with h3
  refine ⟨h1, map_inj' (fun a b e => ?_) h2, map_inj' (fun a b e => ?_) h3⟩
  · injection e with e
    exact tD_inj e
  · injection e with e
    exact iL_inj e
structure netOk (rs : List (List Gt)) (ws : List (List Int)) : Prop where
  len : ws.length = rs.length + 1
  all : ∀ w ∈ ws, lenOk w.length = true
  few : rs.length ≤ 50
/-- whether a thing is a layer's number -/
def layN (n : Nat) (d : D) : Bool := match d with
  | .int i => decide (0 ≤ i) && decide (i ≤ (n : Int))
  | _ => false
abbrev Net := (Int × List (List Gt) × List (List Int))
abbrev nD (A : Ad) (x : Net) : D := netD A x.1 x.2.1 x.2.2
theorem nD_inj {A : Ad} {x y : Net} (h : nD A x = nD A y) : x = y := by
  obtain ⟨h1, h2, h3⟩ := netD_inj h
  exact Prod.ext h1 (Prod.ext h2 h3)
noncomputable def gLen (A : Ad) : List D → Option Out := gOf (fun x : Net => [nD A x]) (fun x => x.2.1.length ≤ 50) fun x => .ret (.int (x.2.1.length : Int))
theorem gLen_eq {A : Ad} {x : Net} (h : x.2.1.length ≤ 50) : gLen A [nD A x] = some (.ret (.int (x.2.1.length : Int))) := gOf_eq (ar := fun x : Net => [nD A x]) (x := x) (fun x y e => by
  injection e with e _
  exact nD_inj e) h
theorem ok_len (T : Tx P K mg A) : MetX P w K mg base 1 A.Gates "__len__" (SpS K 1 (spcF (gLen A))) := by
  obtain ⟨f, fd, cl, me, F, bi⟩ := T.t_Gates___len__
  refine ⟨f, fd, _, cl, me, fnS F sc_Gates___len__ rfl (fun cdv A' outer sh H E hr => ⟨_, (pss_one (ps_ret (pe_callB (DK.len (K := K)) (by rfl) T.z_len (by decide +kernel) (pa_cons (DK.pe_fld (K := K) (pv 0)) pa_nil)))), fun R k0 ds b hp hl hE => ?_⟩), bi⟩
  obtain ⟨o, ho⟩ := hp
  obtain ⟨⟨p, rs, ws⟩, rfl, ok, rfl⟩ := gOf_inv ho
  dsimp only at ok ho hl hE ⊢
  repeat (walk_at "s1")
  refine rc_len (l := rs.map fun gs => .lst (gs.map tD)) rfl ?_
  rw [List.length_map]
  exact ⟨ho, rfl⟩
noncomputable def gChk (A : Ad) : List D → Option Out := gOf (fun x : Net × D => [nD A x.1, x.2]) (fun x => (tyN x.2).isSome = true) fun x => if layN x.1.2.1.length x.2 = true then .ret .non else .exc A.NoLayer ["layer"] [x.2]
theorem nd_inj {A : Ad} (x y : Net × D) (e : [nD A x.1, x.2] = [nD A y.1, y.2]) : x = y := by
  injection e with e1 e
  injection e with e2 _
  exact Prod.ext (nD_inj e1) e2
theorem gChk_eq {A : Ad} {x : Net} {d : D} (h : (tyN d).isSome = true) : gChk A [nD A x, d] = some (if layN x.2.1.length d = true then .ret .non else .exc A.NoLayer ["layer"] [d]) := gOf_eq (ar := fun x : Net × D => [nD A x.1, x.2]) (x := (x, d)) nd_inj h
theorem ok_check_layer (T : Tx P K mg A) : MetX P w K mg base 2 A.Gates "check_layer" (SpS K 2 (spcF (gChk A))) := by
  have c_is_integer := @ok_is_integer P w K mg base A T
  obtain ⟨f, fd, cl, me, F, bi⟩ := T.t_Gates_check_layer
  refine ⟨f, fd, _, cl, me, fnS F sc_Gates_check_layer rfl (fun cdv A' outer sh H E hr => ⟨_, (pss_one (ps_if (PW.pt (pw_or (pt_not (pt_val (pe_cx c_is_integer hr (by omega) (by rfl) (passes_call (takes_of rfl rfl rfl rfl) (fun _ _ _ _ z => z)) (pa_cons (pv 1) pa_nil)))) (pw_or1 (pt_not (pt_chain op_leK op_leK pe_int (pv 1) (pe_callB (DK.len (K := K)) (by rfl) T.z_len (by decide +kernel) (pa_cons (DK.pe_fld (K := K) (pv 0)) pa_nil)))))))
  (pss_one (DX.ps_rs (takes_of rfl rfl rfl rfl) T.x_NoLayer (by decide) (by decide) hr (pa_cons (pv 1) pa_nil)))
  pss_nil)), fun R k0 ds b hp hl hE => ?_⟩), bi⟩
  obtain ⟨o, ho⟩ := hp
  obtain ⟨⟨⟨p, rs, ws⟩, d⟩, rfl, ok, rfl⟩ := gOf_inv ho
  have hx := xok_def hE
  have hX := xokW hx
  dsimp only at ok ho hl hE hx hX ⊢
  have bad : ∀ {C : Addr} {ns : List Str} {fs : List D}, gChk A [nD A (p, rs, ws), d] = some (.exc C ns fs) → (spcF (gChk A)).exc R [nD A (p, rs, ws), d] b C ns fs b := fun e => ⟨e, rfl⟩
  repeat (walk_at "s1")
  refine co_ret rfl (gIsInt_eq ok) ?_
  cases h0 : isIntD d with
  | false =>
    have e : layN rs.length d = false := by cases d <;> first | rfl | cases h0
    rw [if_neg (by rw [e]; exact Bool.false_ne_true)] at ho
    repeat (walk_at "s1")
    exact ⟨rfl, bad ho⟩
  | true =>
    obtain ⟨i, rfl⟩ : ∃ i, d = .int i := by cases d <;> first | exact ⟨_, rfl⟩ | cases h0
    repeat (walk_at "s1")
    refine ⟨fun hz => ?_, fun hz => ?_⟩
    · have e : layN rs.length (.int i) = false := by
        show (decide (0 ≤ i) && _) = false
        rw [hz]
        rfl
      rw [if_neg (by rw [e]; exact Bool.false_ne_true)] at ho
      repeat (walk_at "s1")
      exact ⟨rfl, bad ho⟩
    · repeat (walk_at "s1")
      refine rc_len (l := rs.map fun gs => .lst (gs.map tD)) rfl ?_
      rw [List.length_map]
      refine rd_le ?_
      have e : layN rs.length (.int i) = decide (i ≤ (rs.length : Int)) := by
        show (decide (0 ≤ i) && _) = _
        rw [hz]
        rfl
      rw [e] at ho
      cases hz2 : decide (i ≤ (rs.length : Int)) with
      | false =>
        rw [hz2, if_neg Bool.false_ne_true] at ho
        repeat (walk_at "s1")
        exact ⟨rfl, bad ho⟩
      | true =>
        rw [hz2, if_pos rfl] at ho
        repeat (walk_at "s1")
        exact ⟨ho, rfl⟩
theorem layN_int {n : Nat} {d : D} (h : layN n d = true) : ∃ i : Nat, d = .int (i : Int) ∧ i ≤ n := by
  cases d with
  | int i =>
    obtain ⟨h1, h2⟩ := Bool.and_eq_true_iff.mp h
    have h1 := of_decide_eq_true h1
    have h2 := of_decide_eq_true h2
    obtain ⟨k, rfl⟩ := Int.eq_ofNat_of_zero_le h1
    exact ⟨k, rfl, by omega⟩
  | _ => cases h
def bitsN (n : Nat) : Int := (bitsT.lookup (n : Int)).getD 0
theorem bits_look {n : Nat} (h : lenOk n = true) : bitsT.lookup (n : Int) = some (bitsN n) := by
  have : n = 1 ∨ n = 2 ∨ n = 4 := by
    unfold lenOk at h
    simp [bitsT] at h
    omega
  rcases this with rfl | rfl | rfl <;> rfl
def dInt : D → Nat
  | .int i => i.toNat
  | _ => 0
noncomputable def gBits (A : Ad) : List D → Option Out := gOf (fun x : Net × D => [nD A x.1, x.2]) (fun x => (tyN x.2).isSome = true ∧ netOk x.1.2.1 x.1.2.2) fun x => if layN x.1.2.1.length x.2 = true then .ret (.int (bitsN (x.1.2.2.getD (dInt x.2) []).length)) else .exc A.NoLayer ["layer"] [x.2]
theorem gBits_eq {A : Ad} {x : Net} {d : D} (h : (tyN d).isSome = true) (h2 : netOk x.2.1 x.2.2) : gBits A [nD A x, d] = some (if layN x.2.1.length d = true then .ret (.int (bitsN (x.2.2.getD (dInt d) []).length)) else .exc A.NoLayer ["layer"] [d]) := gOf_eq (ar := fun x : Net × D => [nD A x.1, x.2]) (x := (x, d)) nd_inj ⟨h, h2⟩
theorem at_row {ws : List (List Int)} {i : Nat} (h : i < ws.length) : atI (ws.map iL) (i : Int) = some (iL (ws.getD i [])) ∧ ws.getD i [] ∈ ws := by
  have e : ws[i]? = some ws[i] := List.getElem?_eq_getElem h
  have e2 : ws.getD i [] = ws[i] := by rw [List.getD_eq_getElem?_getD, e]; rfl
  rw [e2]
  exact ⟨DL.atI_nat (by rw [List.getElem?_map, e]; rfl), List.getElem_mem h⟩
theorem ok_bits (T : Tx P K mg A) : MetX P w K mg base 3 A.Gates "bits" (SpS K 2 (spcF (gBits A))) := by
  have c_Gates_check_layer := @ok_check_layer P w K mg base A T
  obtain ⟨f, fd, cl, me, F, bi⟩ := T.t_Gates_bits
  refine ⟨f, fd, _, cl, me, fnS F sc_Gates_bits rfl (fun cdv A' outer sh H E hr => ⟨_, (pss_cons (ps_expr (pe_mtx (pv 0) c_Gates_check_layer hr (by omega) (passes_call (takes_of rfl rfl rfl rfl) (fun _ _ _ _ z => z)) (pa_cons (pv 1) pa_nil)))
  (pss_one (ps_ret (pe_ix (DK.op_tabIx (T.v_BITS).2 (by decide)) (pe_glob (v := V.ref _) (by rfl) (T.v_BITS).1 rfl) (pe_callB (DK.len (K := K)) (by rfl) T.z_len (by decide +kernel) (pa_cons (pe_ix (DK.ix (K := K)) (DK.pe_fld (K := K) (pv 0)) (pv 1) (fun _ _ => rfl)) pa_nil)) (fun _ _ => rfl))))), fun R k0 ds b hp hl hE => ?_⟩), bi⟩
  obtain ⟨o, ho⟩ := hp
  obtain ⟨⟨⟨p, rs, ws⟩, d⟩, rfl, ⟨ok, nk⟩, rfl⟩ := gOf_inv ho
  have hx := xok_def hE
  dsimp only at ok nk ho hl hE hx ⊢
  have gc := gChk_eq (A := A) (x := (p, rs, ws)) ok
  dsimp only at gc
  cases hn : layN rs.length d with
  | false =>
    rw [hn, if_neg Bool.false_ne_true] at gc ho
    refine ws_seq (ws_drop (we_methF hx (we_var rfl ⟨_, _, rfl, by decide, wl_cons (we_var rfl (wl_nil (co_exc rfl gc ⟨ho, rfl⟩)))⟩)))
  | true =>
    rw [hn, if_pos rfl] at gc ho
    obtain ⟨i, rfl, il⟩ := layN_int hn
    refine ws_seq (ws_drop (we_methF hx (we_var rfl ⟨_, _, rfl, by decide, wl_cons (we_var rfl (wl_nil (co_ret rfl gc ?_)))⟩)))
    obtain ⟨r1, r2⟩ := at_row (ws := ws) (i := i) (by rw [nk.len]; omega)
    refine ws_ret (we_op (we_ref ?_))
    repeat (walk_at "s1")
    refine rd_ix (l := ws.map iL) rfl r1 ?_
    refine wl_nil (rc_lenI ?_)
    refine rd_tabIx (bits_look (nk.all _ r2)) ?_
    exact ⟨ho, rfl⟩
noncomputable def gCells (A : Ad) : List D → Option Out := gOf (fun x : Net × D => [nD A x.1, x.2]) (fun x => (tyN x.2).isSome = true ∧ netOk x.1.2.1 x.1.2.2) fun x => if layN x.1.2.1.length x.2 = true then .ret (iL (x.1.2.2.getD (dInt x.2) [])) else .exc A.NoLayer ["layer"] [x.2]
theorem gCells_eq {A : Ad} {x : Net} {d : D} (h : (tyN d).isSome = true) (h2 : netOk x.2.1 x.2.2) : gCells A [nD A x, d] = some (if layN x.2.1.length d = true then .ret (iL (x.2.2.getD (dInt d) [])) else .exc A.NoLayer ["layer"] [d]) := gOf_eq (ar := fun x : Net × D => [nD A x.1, x.2]) (x := (x, d)) nd_inj ⟨h, h2⟩
theorem ok_cells (T : Tx P K mg A) : MetX P w K mg base 3 A.Gates "cells" (SpS K 2 (spcF (gCells A))) := by
  have c_Gates_check_layer := @ok_check_layer P w K mg base A T
  obtain ⟨f, fd, cl, me, F, bi⟩ := T.t_Gates_cells
  refine ⟨f, fd, _, cl, me, fnS F sc_Gates_cells rfl (fun cdv A' outer sh H E hr => ⟨_, (pss_cons (ps_expr (pe_mtx (pv 0) c_Gates_check_layer hr (by omega) (passes_call (takes_of rfl rfl rfl rfl) (fun _ _ _ _ z => z)) (pa_cons (pv 1) pa_nil)))
  (pss_one (ps_ret (pe_callTy (DK.lst (K := K)) (by rfl) T.z_list (by decide +kernel) (pa_cons (pe_ix (DK.ix (K := K)) (DK.pe_fld (K := K) (pv 0)) (pv 1) (fun _ _ => rfl)) pa_nil))))), fun R k0 ds b hp hl hE => ?_⟩), bi⟩
  obtain ⟨o, ho⟩ := hp
  obtain ⟨⟨⟨p, rs, ws⟩, d⟩, rfl, ⟨ok, nk⟩, rfl⟩ := gOf_inv ho
  have hx := xok_def hE
  dsimp only at ok nk ho hl hE hx ⊢
  have gc := gChk_eq (A := A) (x := (p, rs, ws)) ok
  dsimp only at gc
  cases hn : layN rs.length d with
  | false =>
    rw [hn, if_neg Bool.false_ne_true] at gc ho
    refine ws_seq (ws_drop (we_methF hx (we_var rfl ⟨_, _, rfl, by decide, wl_cons (we_var rfl (wl_nil (co_exc rfl gc ⟨ho, rfl⟩)))⟩)))
  | true =>
    rw [hn, if_pos rfl] at gc ho
    obtain ⟨i, rfl, il⟩ := layN_int hn
    refine ws_seq (ws_drop (we_methF hx (we_var rfl ⟨_, _, rfl, by decide, wl_cons (we_var rfl (wl_nil (co_ret rfl gc ?_)))⟩)))
    obtain ⟨r1, r2⟩ := at_row (ws := ws) (i := i) (by rw [nk.len]; omega)
    repeat (walk_at "s1")
    refine rd_ix (l := ws.map iL) rfl r1 ?_
    refine wl_nil (rc_list (l := (ws.getD i []).map D.int) rfl ?_)
    exact ⟨ho, rfl⟩
end
end K54

set_option Elab.async false
set_option linter.all false
set_option maxRecDepth 100000
set_option maxHeartbeats 4000000
namespace K54
open PySem PySem.Spec PyProof.Rows L2 DL
section
variable {P : Program} {w : World} {K : PySem.W.Frag} {mg : Str → Option Value} {base : Heap} {A : Ad}
local macro_rules | `(tactic| walk_at "s0") => `(tactic| with_reducible first
  | refine ws_seq ?_ | refine ws_next ?_ | refine ws_ret ?_ | refine ws_retN ?_ | refine ws_if ?_ | refine ws_asg ?_ | refine ws_drop ?_ | refine ws_par ?_ | refine ws_break ?_ | refine ws_cont ?_
  | refine we_var rfl ?_ | refine we_int ?_ | refine we_non ?_ | refine we_bl ?_ | refine we_str ?_ | refine we_ty ?_ | refine we_dnew ?_ | refine we_op ?_ | refine we_un ?_
  | refine we_and ?_ | refine we_or ?_ | refine we_not ?_ | refine we_if ?_ | refine we_chain ?_ | refine we_cb ?_ | refine we_tup ?_ | refine we_lst ?_
  | refine wl_cons ?_ | refine wl_nil ?_ | refine wt_B ?_ | refine wt_test ?_ | refine wt_and ?_ | refine wt_or ?_ | refine wt_not ?_ | refine wt_yes ?_
  | refine wi_tup ?_ | refine wi_list ?_ | refine wg_tup rfl ?_ | refine wgs_cons ?_ | refine wgs_nil ?_
  | refine rd_add_int ?_ | refine rd_sub ?_ | refine rd_lt ?_ | refine rd_le ?_ | refine rd_gt ?_ | refine rd_ge ?_ | refine rd_eq_int ?_ | refine rd_ne_int ?_ | refine rd_eq_str ?_ | refine rd_ne_str ?_ | refine rd_eq_bl ?_ | refine rd_ne_bl ?_ | refine rd_is ?_ | refine rd_is_bl ?_ | refine rd_isnot ?_ | refine ru_neg ?_
  | refine rc_int ?_ | refine rc_abs ?_ | refine rc_anyF ?_ | refine rc_allF ?_
  | refine brT ?_ | refine brF ?_ | refine brT' ?_ | refine brF' ?_
  | refine ⟨_, rfl, ?_⟩)
set_option hygiene false in
local macro_rules | `(tactic| walk_at "s1") => `(tactic| first
  | refine we_isiLT ?_ | refine we_isiILT ?_ | refine wi_seqV (by rfl) (by rfl) ?_ | walk_at "s0" | refine ⟨true, by rfl, ?_⟩ | refine ⟨false, by rfl, ?_⟩ | refine we_ref ?_ | refine we_fld1 ?_ | refine ⟨_, _, _, _, rfl, T.n_Gates_prime, by rfl, ?_⟩ | refine ⟨_, _, _, _, rfl, T.n_Gates_rows, by rfl, ?_⟩ | refine ⟨_, _, _, _, rfl, T.n_Gates_worths, by rfl, ?_⟩ | refine ⟨_, _, _, _, rfl, T.n_Poly_prime, by rfl, ?_⟩ | refine ⟨_, _, _, _, rfl, T.n_Poly_row, by rfl, ?_⟩ | refine ⟨_, _, _, _, rfl, T.n_Layers_net, by rfl, ?_⟩ | refine ⟨_, _, _, _, rfl, T.n_Layers_prime, by rfl, ?_⟩ | refine ⟨_, _, _, _, rfl, T.n_Layers_begin, by rfl, ?_⟩ | refine ⟨_, _, _, _, rfl, T.n_Layers_lot, by rfl, ?_⟩ | refine ⟨_, _, _, _, rfl, T.n_Layers_sizes, by rfl, ?_⟩ | refine rc_isiB (r := true) (by rfl) ?_ | refine rc_isiO T.k_Gates ?_ | refine rc_isiN T.k_Gates (by rfl) ?_ | refine rc_isiO T.k_Poly ?_ | refine rc_isiN T.k_Poly (by rfl) ?_ | refine rc_isiO T.k_Layers ?_ | refine rc_isiN T.k_Layers (by rfl) ?_ | refine we_callF (by assumption) ?_ | refine we_callF (X := fun _ _ _ _ => False) xok0 ?_ | refine we_callFl (by assumption) ?_ | refine we_callFl (X := fun _ _ _ _ => False) xok0 ?_ | refine we_makeFl (by assumption) ?_ | refine we_makeFl (X := fun _ _ _ _ => False) xok0 ?_ | refine we_makeF (by assumption) ?_ | refine we_makeF (X := fun _ _ _ _ => False) xok0 ?_ | refine DX.ws_rs (by assumption) ?_ | refine wt_test ?_ | refine co_ret rfl (by rfl) ?_ | refine wg_nm (by rfl) ?_ | refine parB (by rfl) (by rfl) ?_ | refine szB (by rfl) ?_ | refine szL (by rfl) ?_ | refine brT2 (by rfl) ?_ | refine brF2 (by rfl) ?_ | refine brT3 (by rfl) ?_ | refine brF3 (by rfl) ?_ | refine rc_isiB (r := false) (by rfl) ?_)
theorem cal_none {x : Str} {st : Stmt} {N ps : List Str} {k n : Nat} (h : ∃ (a : Addr) (fd : FuncData), Fun K x x st a fd ∧ mg x = some (.ref a) ∧ L2.Binds K fd ps []) (S : FnScope N ps (defScope st)) {s : Spc} (hs : ∀ R ds b, ¬ s.pre R ds b) : CalX P w K mg base (k + 1) x (SpS K n s) := by
  obtain ⟨a, fd, F, m, bi⟩ := h
  have no : ∀ vs H Q E, ¬ SpS K n s vs H Q E := fun vs H Q E h => by
    obtain ⟨_, R, k0, ds, b, _, _, _, _, h1, _⟩ := h
    exact hs R ds b h1
  exact ⟨a, fd, ps, F.okX S (fun vs H Q E h => (no _ _ _ _ h).elim) (fun cdv A outer s H vs Q E hr h => (no _ _ _ _ h).elim), m, F.kp, bi⟩
/-- what is frozen: lists and tuples as tuples -/
def frozD : Nat → D → Option D
  | 0, _ => none
  | n + 1, d => match d with
    | .dct [] [] => some (.dct [] [])
    | .lst l => if l.length ≤ 1000 ∧ l.all (fun x => (frozD n x).isSome) = true then some (.tup (l.map fun x => (frozD n x).getD .non)) else none
    | .tup l => if l.length ≤ 1000 ∧ l.all (fun x => (frozD n x).isSome) = true then some (.tup (l.map fun x => (frozD n x).getD .non)) else none
    | .non => some .non
    | .bl b => some (.bl b)
    | .int i => some (.int i)
    | .str x => some (.str x)
    | _ => none
def gFroz (n : Nat) : List D → Option Out
  | [d] => (frozD n d).map .ret
  | _ => none
theorem ok_frozen (T : Tx P K mg A) : ∀ n, CalX P w K mg base (n + 1) "_law_frozen" (SpS K 1 (spcF (gFroz n)))
  | 0 => cal_none T.f__law_frozen sc__law_frozen fun R ds b ⟨o, h⟩ => by
    unfold gFroz at h
    split at h <;> cases h
  | n + 1 => by
    have c__law_frozen := ok_frozen T n
    obtain ⟨a, fd, F, m, bi⟩ := T.f__law_frozen
    refine ⟨a, fd, _, fnS F sc__law_frozen rfl (fun cdv A' outer sh H E hr => ⟨_, (pss_cons (ps_if (pt_val (pe_callB (DK.isi (K := K)) (by rfl) T.z_isinstance (by decide +kernel) (pa_cons (pv 0) (pa_cons (pe_tyn (n := "dict") (by rfl) T.z_dict (by decide +kernel)) pa_nil))))
  (pss_one (ps_ret (pe_callTy (call_dctP (K := K)) (by rfl) T.z_dict (by decide +kernel) (pa_cons (pe_lock (pe_lc (own := [("_law_key", 1)]) (g := (gName 1)) (tt := tYes) rfl sc__law_frozen.nd (pi_keys (pv 0)) (blkOk_by (own := [("_law_key", 1)]) (N := n__law_frozen) (sc := (defScope s__law_frozen)) (by first | decide +kernel | kernel_rfl)) (fun _ _ _ _ _ => (pg_name (i := 1) sc__law_frozen.nd rfl (by first | exact .inl rfl | exact .inr rfl))) (fun _ _ _ _ _ => pts_nil) (fun _ _ _ _ _ => (pe_tup (pa_cons (pv 1) (pa_cons (pe_cx c__law_frozen hr (by omega) (by rfl) passL (pa_cons (pe_ix (DK.ix (K := K)) (pv 0) (pv 1) (fun _ _ => rfl)) pa_nil)) pa_nil)))))) pa_nil))))
  pss_nil)
  (pss_one (ps_ret (pe_ifExp (pt_val (pe_callB (DK.isiT (K := K)) (by rfl) T.z_isinstance (by decide +kernel) (pa_cons (pv 0) (pa_cons (pe_tup (pa_cons (pe_tyn (n := "list") (by rfl) T.z_list (by decide +kernel)) (pa_cons (pe_tyn (n := "tuple") (by rfl) T.z_tuple (by decide +kernel)) pa_nil))) pa_nil)))) (pe_callTy (DK.tup (K := K)) (by rfl) T.z_tuple (by decide +kernel) (pa_cons (pe_lc (own := [("_law_part", 2)]) (g := (gName 2)) (tt := tYes) rfl sc__law_frozen.nd (DK.pi_seq (K := K) (pv 0)) (blkOk_by (own := [("_law_part", 2)]) (N := n__law_frozen) (sc := (defScope s__law_frozen)) (by first | decide +kernel | kernel_rfl)) (fun _ _ _ _ _ => (pg_name (i := 2) sc__law_frozen.nd rfl (by first | exact .inl rfl | exact .inr rfl))) (fun _ _ _ _ _ => pts_nil) (fun _ _ _ _ _ => (pe_cx c__law_frozen hr (by omega) (by rfl) passL (pa_cons (pv 2) pa_nil)))) pa_nil)) (pv 0))))), fun R k0 ds b hp hl hE => ?_⟩), m, F.kp, bi⟩
    obtain ⟨o, ho⟩ := hp
    obtain ⟨d, rfl⟩ : ∃ d, ds = [d] := by
      match ds, hl with
      | [d], _ => exact ⟨d, rfl⟩
    have hx : XOk ⟨K, R, k0, H, true, fun _ => none⟩ E (fun _ _ _ _ => False) := xok0
    have go : ∀ (l : List D), l.length ≤ 1000 → l.all (fun x => (frozD n x).isSome) = true → ∀ x ∈ l, gFroz n [x] = some (.ret ((frozD n x).getD .non)) := fun l _ h x hx => by
      have := List.all_eq_true.mp h x hx
      obtain ⟨y, hy⟩ := Option.isSome_iff_exists.mp this
      show (frozD n x).map Out.ret = _
      rw [hy]
      rfl
    cases d
    case dct ks l =>
      have e : ks = [] ∧ l = [] := by
        cases ks <;> cases l <;> first | exact ⟨rfl, rfl⟩ | cases ho
      obtain ⟨rfl, rfl⟩ := e
      repeat (walk_at "s1")
      refine we_lcD0 (by rfl) ?_
      repeat (walk_at "s1")
      refine rc_dct0 ?_
      exact ⟨rfl, rfl⟩
    case lst l =>
      obtain ⟨⟨h1, h2⟩, ho⟩ : (l.length ≤ 1000 ∧ l.all (fun x => (frozD n x).isSome) = true) ∧ gFroz (n + 1) [.lst l] = some (.ret (.tup (l.map fun x => (frozD n x).getD .non))) := by
        by_cases hc : l.length ≤ 1000 ∧ l.all (fun x => (frozD n x).isSome) = true
        · refine ⟨hc, ?_⟩
          show (if l.length ≤ 1000 ∧ l.all (fun x => (frozD n x).isSome) = true then some (D.tup (l.map fun x => (frozD n x).getD .non)) else none).map Out.ret = _
          rw [if_pos hc]
          rfl
        · have e : gFroz (n + 1) [.lst l] = (if l.length ≤ 1000 ∧ l.all (fun x => (frozD n x).isSome) = true then some (D.tup (l.map fun x => (frozD n x).getD .non)) else none).map Out.ret := rfl
          rw [e, if_neg hc] at ho
          cases ho
      have gl := go l h1 h2
      repeat (walk_at "s1")
      refine we_lcM (kg_name (by decide)) ?_
      repeat (walk_at "s1")
      refine ⟨fun x => (frozD n x).getD .non, lt_size (by omega), fun x hxl oo acc => ?_, ?_⟩
      · repeat (walk_at "s1")
        refine co_ret rfl (gl x hxl) ?_
        exact ⟨rfl, rfl, rfl⟩
      · repeat (walk_at "s1")
        refine rc_tup (l := l.map fun x => (frozD n x).getD .non) rfl ?_
        exact ⟨ho, rfl⟩
    case tup l =>
      obtain ⟨⟨h1, h2⟩, ho⟩ : (l.length ≤ 1000 ∧ l.all (fun x => (frozD n x).isSome) = true) ∧ gFroz (n + 1) [.tup l] = some (.ret (.tup (l.map fun x => (frozD n x).getD .non))) := by
        by_cases hc : l.length ≤ 1000 ∧ l.all (fun x => (frozD n x).isSome) = true
        · refine ⟨hc, ?_⟩
          show (if l.length ≤ 1000 ∧ l.all (fun x => (frozD n x).isSome) = true then some (D.tup (l.map fun x => (frozD n x).getD .non)) else none).map Out.ret = _
          rw [if_pos hc]
          rfl
        · have e : gFroz (n + 1) [.tup l] = (if l.length ≤ 1000 ∧ l.all (fun x => (frozD n x).isSome) = true then some (D.tup (l.map fun x => (frozD n x).getD .non)) else none).map Out.ret := rfl
          rw [e, if_neg hc] at ho
          cases ho
      have gl := go l h1 h2
      repeat (walk_at "s1")
      refine we_lcM (kg_name (by decide)) ?_
      repeat (walk_at "s1")
      refine ⟨fun x => (frozD n x).getD .non, lt_size (by omega), fun x hxl oo acc => ?_, ?_⟩
      · repeat (walk_at "s1")
        refine co_ret rfl (gl x hxl) ?_
        exact ⟨rfl, rfl, rfl⟩
      · repeat (walk_at "s1")
        refine rc_tup (l := l.map fun x => (frozD n x).getD .non) rfl ?_
        exact ⟨ho, rfl⟩
    all_goals first
      | (cases ho; done)
      | (repeat (walk_at "s1")
         exact ⟨rfl, rfl⟩)
theorem zip_mem {l : List D} {d : D} (h : d ∈ zipD l l) : ∃ x, x ∈ l ∧ d = .tup [x, x] := by
  obtain ⟨i, hi, e⟩ := List.mem_iff_getElem.mp h
  obtain ⟨x, y, h1, h2, h3⟩ := zipD_get (l := l) (m := l) (i := i) (d := d) (by rw [List.getElem?_eq_getElem hi, e])
  rw [h1] at h2
  cases h2
  exact ⟨x, List.mem_of_getElem? h1, h3⟩
/-- what _law_same tells alike -/
def okS : Nat → D → Bool
  | 0, _ => false
  | n + 1, d => match d with
    | .lst l => decide (l.length ≤ 1000) && l.all (okS n)
    | .tup l => decide (l.length ≤ 1000) && l.all (okS n)
    | .non => true
    | .bl _ => true
    | .int _ => true
    | .str _ => true
    | .dct [] [] => true
    | _ => false
def sSame (n : Nat) : Spc where
  pre := fun R ds b => ∃ d, ds = [d, d] ∧ okS n d = true
  post := fun R ds b d b' => d = .bl true ∧ b' = b
theorem ok_same (T : Tx P K mg A) : ∀ n, CalX P w K mg base (n + 1) "_law_same" (SpS K 2 (sSame n))
  | 0 => cal_none T.f__law_same sc__law_same fun R ds b ⟨d, h1, h2⟩ => by cases h2
  | n + 1 => by
    have c__law_same := ok_same T n
    obtain ⟨a, fd, F, m, bi⟩ := T.f__law_same
    refine ⟨a, fd, _, fnS F sc__law_same rfl (fun cdv A' outer sh H E hr => ⟨_, (pss_cons (ps_if (pt_val (pe_callB (DK.isiT (K := K)) (by rfl) T.z_isinstance (by decide +kernel) (pa_cons (pv 1) (pa_cons (pe_tup (pa_cons (pe_tyn (n := "list") (by rfl) T.z_list (by decide +kernel)) (pa_cons (pe_tyn (n := "tuple") (by rfl) T.z_tuple (by decide +kernel)) pa_nil))) pa_nil))))
  (pss_cons (ps_if (PW.pt (pw_or (pt_cmpR (DK.op_ne (K := K) (hr.units)) (pe_callB (DK.isi (K := K)) (by rfl) T.z_isinstance (by decide +kernel) (pa_cons (pv 0) (pa_cons (pe_tyn (n := "list") (by rfl) T.z_list (by decide +kernel)) pa_nil))) (pe_callB (DK.isi (K := K)) (by rfl) T.z_isinstance (by decide +kernel) (pa_cons (pv 1) (pa_cons (pe_tyn (n := "list") (by rfl) T.z_list (by decide +kernel)) pa_nil))) (nomark _)) (pw_or1 (pt_cmpR (DK.op_ne (K := K) (hr.units)) (pe_callB (DK.isi (K := K)) (by rfl) T.z_isinstance (by decide +kernel) (pa_cons (pv 0) (pa_cons (pe_tyn (n := "tuple") (by rfl) T.z_tuple (by decide +kernel)) pa_nil))) (pe_callB (DK.isi (K := K)) (by rfl) T.z_isinstance (by decide +kernel) (pa_cons (pv 1) (pa_cons (pe_tyn (n := "tuple") (by rfl) T.z_tuple (by decide +kernel)) pa_nil))) (nomark _)))))
  (pss_one (ps_ret pe_bl))
  pss_nil)
  (pss_one (ps_ret (pe_and (pe_cmpR (DK.op_eq (K := K) (hr.units)) (pe_callB (DK.len (K := K)) (by rfl) T.z_len (by decide +kernel) (pa_cons (pv 0) pa_nil)) (pe_callB (DK.len (K := K)) (by rfl) T.z_len (by decide +kernel) (pa_cons (pv 1) pa_nil)) (nomark _)) (pe_one (pe_callB (DK.all (K := K)) (by rfl) T.z_all (by decide +kernel) (pa_cons (pe_lc (own := [("_law_x", 2), ("_law_y", 3)]) (g := (gTup K 2 (gCons (gName 2) (gCons (gName 3) gNil)))) (tt := tYes) rfl sc__law_same.nd (DK.pi_zip (K := K) (by rfl) T.z_zip (pa_cons (pv 0) (pa_cons (pv 1) pa_nil))) (blkOk_by (own := [("_law_x", 2), ("_law_y", 3)]) (N := n__law_same) (sc := (defScope s__law_same)) (by first | decide +kernel | kernel_rfl)) (fun _ _ _ _ _ => (DK.pg_tup (K := K) rfl (pgs_cons (pg_name (i := 2) sc__law_same.nd rfl (by first | exact .inl rfl | exact .inr rfl)) (pgs_cons (pg_name (i := 3) sc__law_same.nd rfl (by first | exact .inl rfl | exact .inr rfl)) pgs_nil)))) (fun _ _ _ _ _ => pts_nil) (fun _ _ _ _ _ => (pe_cx c__law_same hr (by omega) (by rfl) passL (pa_cons (pv 2) (pa_cons (pv 3) pa_nil))))) pa_nil)))))))
  pss_nil)
  (pss_cons (ps_if (pt_val (pe_callB (DK.isi (K := K)) (by rfl) T.z_isinstance (by decide +kernel) (pa_cons (pv 1) (pa_cons (pe_tyn (n := "int") (by rfl) T.z_int (by decide +kernel)) pa_nil))))
  (pss_one (ps_ret (pe_and (pe_callB (DK.isi (K := K)) (by rfl) T.z_isinstance (by decide +kernel) (pa_cons (pv 0) (pa_cons (pe_tyn (n := "int") (by rfl) T.z_int (by decide +kernel)) pa_nil))) (pe_and (pe_cmpR (DK.op_eq (K := K) (hr.units)) (pe_callB (DK.isi (K := K)) (by rfl) T.z_isinstance (by decide +kernel) (pa_cons (pv 0) (pa_cons (pe_tyn (n := "bool") (by rfl) T.z_bool (by decide +kernel)) pa_nil))) (pe_callB (DK.isi (K := K)) (by rfl) T.z_isinstance (by decide +kernel) (pa_cons (pv 1) (pa_cons (pe_tyn (n := "bool") (by rfl) T.z_bool (by decide +kernel)) pa_nil))) (nomark _)) (pe_one (pe_cmpR (DK.op_eq (K := K) (hr.units)) (pv 0) (pv 1) (nomark _)))))))
  pss_nil)
  (pss_one (ps_ret (pe_and (pe_cmpR op_isK (pe_callB (DK.isiT (K := K)) (by rfl) T.z_isinstance (by decide +kernel) (pa_cons (pv 0) (pa_cons (pe_tup (pa_cons (pe_tyn (n := "int") (by rfl) T.z_int (by decide +kernel)) (pa_cons (pe_tyn (n := "list") (by rfl) T.z_list (by decide +kernel)) (pa_cons (pe_tyn (n := "tuple") (by rfl) T.z_tuple (by decide +kernel)) pa_nil)))) pa_nil))) pe_bl (nomark _)) (pe_one (pe_cmpR (DK.op_eq (K := K) (hr.units)) (pv 0) (pv 1) (nomark _)))))))), fun R k0 ds b hp hl hE => ?_⟩), m, F.kp, bi⟩
    obtain ⟨d, rfl, hd⟩ := hp
    cases d
    case lst l =>
      obtain ⟨l1, l2⟩ := Bool.and_eq_true_iff.mp hd
      have l1 := of_decide_eq_true l1
      have l2 := List.all_eq_true.mp l2
      repeat (walk_at "s1")
      refine rc_len (l := l) rfl ?_
      repeat (walk_at "s1")
      refine rc_len (l := l) rfl ?_
      repeat (walk_at "s1")
      refine brD (fun _ => ?_) (fun h => absurd rfl h)
      repeat (walk_at "s1")
      refine we_lcM (kg_tup (kgs_cons (by decide) (kgs_cons (by decide) kgs_nil))) ?_
      refine wi_zip ?_
      repeat (walk_at "s1")
      refine ⟨l, l, rfl, fun _ => .bl true, lt_size (by unfold zipD; rw [List.length_map, List.length_zip]; omega), fun x hxl oo acc => ?_, ?_⟩
      · obtain ⟨y, hy, rfl⟩ := zip_mem hxl
        refine wg_tup rfl ?_
        repeat (walk_at "s1")
        refine we_call (X := fun _ _ _ _ => False) xok0 ?_
        repeat (walk_at "s1")
        refine ⟨rfl, ⟨y, rfl, l2 y hy⟩, ?_, fun _ _ _ _ z => z⟩
        rintro d b' ⟨rfl, _⟩
        exact ⟨rfl, rfl, rfl⟩
      · repeat (walk_at "s1")
        have e : (zipD l l).all (fun _ => true) = true := by simp
        exact ⟨congrArg D.bl e, rfl⟩
    case tup l =>
      obtain ⟨l1, l2⟩ := Bool.and_eq_true_iff.mp hd
      have l1 := of_decide_eq_true l1
      have l2 := List.all_eq_true.mp l2
      repeat (walk_at "s1")
      refine rc_len (l := l) rfl ?_
      repeat (walk_at "s1")
      refine rc_len (l := l) rfl ?_
      repeat (walk_at "s1")
      refine brD (fun _ => ?_) (fun h => absurd rfl h)
      repeat (walk_at "s1")
      refine we_lcM (kg_tup (kgs_cons (by decide) (kgs_cons (by decide) kgs_nil))) ?_
      refine wi_zipT ?_
      repeat (walk_at "s1")
      refine ⟨l, l, rfl, fun _ => .bl true, lt_size (by unfold zipD; rw [List.length_map, List.length_zip]; omega), fun x hxl oo acc => ?_, ?_⟩
      · obtain ⟨y, hy, rfl⟩ := zip_mem hxl
        refine wg_tup rfl ?_
        repeat (walk_at "s1")
        refine we_call (X := fun _ _ _ _ => False) xok0 ?_
        repeat (walk_at "s1")
        refine ⟨rfl, ⟨y, rfl, l2 y hy⟩, ?_, fun _ _ _ _ z => z⟩
        rintro d b' ⟨rfl, _⟩
        exact ⟨rfl, rfl, rfl⟩
      · repeat (walk_at "s1")
        have e : (zipD l l).all (fun _ => true) = true := by simp
        exact ⟨congrArg D.bl e, rfl⟩
    case dct ks l =>
      have e : ks = [] ∧ l = [] := by
        cases ks <;> cases l <;> first | exact ⟨rfl, rfl⟩ | cases hd
      obtain ⟨rfl, rfl⟩ := e
      repeat (walk_at "s1")
      refine rd_eq_dct0 ?_
      exact ⟨rfl, rfl⟩
    case non =>
      repeat (walk_at "s1")
      refine rd_eq_py (by rfl) (by rfl) ?_
      exact ⟨rfl, rfl⟩
    all_goals first
      | (cases hd; done)
      | (repeat (walk_at "s1")
         exact ⟨congrArg D.bl (decide_eq_true rfl), rfl⟩)
end
end K54

set_option Elab.async false
set_option linter.all false
set_option maxRecDepth 100000
set_option maxHeartbeats 4000000
namespace K54
open PySem PySem.Spec PyProof.Rows L2 DL
section
variable {P : Program} {w : World} {K : PySem.W.Frag} {mg : Str → Option Value} {base : Heap} {A : Ad}
local macro_rules | `(tactic| walk_at "s0") => `(tactic| with_reducible first
  | refine ws_seq ?_ | refine ws_next ?_ | refine ws_ret ?_ | refine ws_retN ?_ | refine ws_if ?_ | refine ws_asg ?_ | refine ws_drop ?_ | refine ws_par ?_ | refine ws_break ?_ | refine ws_cont ?_
  | refine we_var rfl ?_ | refine we_int ?_ | refine we_non ?_ | refine we_bl ?_ | refine we_str ?_ | refine we_ty ?_ | refine we_dnew ?_ | refine we_op ?_ | refine we_un ?_
  | refine we_and ?_ | refine we_or ?_ | refine we_not ?_ | refine we_if ?_ | refine we_chain ?_ | refine we_cb ?_ | refine we_tup ?_ | refine we_lst ?_
  | refine wl_cons ?_ | refine wl_nil ?_ | refine wt_B ?_ | refine wt_test ?_ | refine wt_and ?_ | refine wt_or ?_ | refine wt_not ?_ | refine wt_yes ?_
  | refine wi_tup ?_ | refine wi_list ?_ | refine wg_tup rfl ?_ | refine wgs_cons ?_ | refine wgs_nil ?_
  | refine rd_add_int ?_ | refine rd_sub ?_ | refine rd_lt ?_ | refine rd_le ?_ | refine rd_gt ?_ | refine rd_ge ?_ | refine rd_eq_int ?_ | refine rd_ne_int ?_ | refine rd_eq_str ?_ | refine rd_ne_str ?_ | refine rd_eq_bl ?_ | refine rd_ne_bl ?_ | refine rd_is ?_ | refine rd_is_bl ?_ | refine rd_isnot ?_ | refine ru_neg ?_
  | refine rc_int ?_ | refine rc_abs ?_ | refine rc_anyF ?_ | refine rc_allF ?_
  | refine brT ?_ | refine brF ?_ | refine brT' ?_ | refine brF' ?_
  | refine ⟨_, rfl, ?_⟩)
set_option hygiene false in
local macro_rules | `(tactic| walk_at "s1") => `(tactic| first
  | refine we_isiLT ?_ | refine we_isiILT ?_ | refine wi_seqV (by rfl) (by rfl) ?_ | walk_at "s0" | refine ⟨true, by rfl, ?_⟩ | refine ⟨false, by rfl, ?_⟩ | refine we_ref ?_ | refine we_fld1 ?_ | refine ⟨_, _, _, _, rfl, T.n_Gates_prime, by rfl, ?_⟩ | refine ⟨_, _, _, _, rfl, T.n_Gates_rows, by rfl, ?_⟩ | refine ⟨_, _, _, _, rfl, T.n_Gates_worths, by rfl, ?_⟩ | refine ⟨_, _, _, _, rfl, T.n_Poly_prime, by rfl, ?_⟩ | refine ⟨_, _, _, _, rfl, T.n_Poly_row, by rfl, ?_⟩ | refine ⟨_, _, _, _, rfl, T.n_Layers_net, by rfl, ?_⟩ | refine ⟨_, _, _, _, rfl, T.n_Layers_prime, by rfl, ?_⟩ | refine ⟨_, _, _, _, rfl, T.n_Layers_begin, by rfl, ?_⟩ | refine ⟨_, _, _, _, rfl, T.n_Layers_lot, by rfl, ?_⟩ | refine ⟨_, _, _, _, rfl, T.n_Layers_sizes, by rfl, ?_⟩ | refine rc_isiB (r := true) (by rfl) ?_ | refine rc_isiO T.k_Gates ?_ | refine rc_isiN T.k_Gates (by rfl) ?_ | refine rc_isiO T.k_Poly ?_ | refine rc_isiN T.k_Poly (by rfl) ?_ | refine rc_isiO T.k_Layers ?_ | refine rc_isiN T.k_Layers (by rfl) ?_ | refine we_callF (by assumption) ?_ | refine we_callF (X := fun _ _ _ _ => False) xok0 ?_ | refine we_callFl (by assumption) ?_ | refine we_callFl (X := fun _ _ _ _ => False) xok0 ?_ | refine we_makeFl (by assumption) ?_ | refine we_makeFl (X := fun _ _ _ _ => False) xok0 ?_ | refine we_makeF (by assumption) ?_ | refine we_makeF (X := fun _ _ _ _ => False) xok0 ?_ | refine DX.ws_rs (by assumption) ?_ | refine wt_test ?_ | refine co_ret rfl (by rfl) ?_ | refine wg_nm (by rfl) ?_ | refine parB (by rfl) (by rfl) ?_ | refine szB (by rfl) ?_ | refine szL (by rfl) ?_ | refine brT2 (by rfl) ?_ | refine brF2 (by rfl) ?_ | refine brT3 (by rfl) ?_ | refine brF3 (by rfl) ?_ | refine rc_isiB (r := false) (by rfl) ?_)
theorem ok_start (T : Tx P K mg A) : CalX P w K mg base 1 "_law_start" (spStart K) := by
  obtain ⟨a, fd, F, m, bi⟩ := T.f__law_start
  refine ⟨a, fd, _, F.okX sc__law_start (fun vs H Q E h => ?_) (fun cdv A' outer sh H vs Q E hr h => ⟨_, (pss_one (ps_ret (pe_lst (pa_cons (pe_callTy (DK.lst (K := K)) (by rfl) T.z_list (by decide +kernel) (pa_cons (pv 0) pa_nil)) (pa_cons pe_int (pa_cons pe_int (pa_cons pe_int pa_nil))))))), ?_⟩), m, F.kp, bi⟩
  · obtain ⟨a, ns, rfl, _⟩ := h
    rfl
  · obtain ⟨a, ns, rfl, hs, q⟩ := h
    refine ⟨_, rfl, a, _, rfl, .inl hs, fun l hl => ⟨by rw [sizeLine_eq]; show 4 ≤ _; omega, fun s hs => ?_⟩⟩
    have ne : l ≠ s := fun e => by rw [← e, upd_same] at hs; cases hs
    rw [upd_ne (Ne.symm ne)] at hs
    exact q l s hl hs ne
local macro_rules | `(tactic| walk_at "d1") => `(tactic| first
  | refine we_s0 (by rfl) (by rfl) ?_ | refine we_s1 (by rfl) (by rfl) ?_ | refine we_s2 (by rfl) (by rfl) ?_ | refine we_s3 (by rfl) (by rfl) ?_
  | refine wg_s1 (fun _ _ _ _ z => z) (by rfl) (by rfl) ?_ | refine wg_s2 (fun _ _ _ _ z => z) (by rfl) (by rfl) ?_ | refine wg_s3 (fun _ _ _ _ z => z) (by rfl) (by rfl) ?_ | walk_at "s1")
theorem ok_draw (T : Tx P K mg A) : CalX P w K mg base 1 "_law_draw" (SpS K 2 (drawSpc (fun as b => ∃ n : Int, as = [.int n] ∧ 0 < n ∧ n ≤ 1000000 ∧ b ≤ 1000000000000) (fun as b d b' => ∃ n x : Int, as = [.int n] ∧ d = .int x ∧ 0 ≤ x ∧ x < n ∧ b' = b + 1))) := by
  obtain ⟨a, fd, F, m, bi⟩ := T.f__law_draw
  refine ⟨a, fd, _, fn_strm F sc__law_draw rfl (fun cdv A' outer sh H E hr => ⟨_, (pss_cons (ps_asg (pe_op (DK.op_add (K := K)) (pe_ix (DK.ix (K := K)) (pv 0) pe_int (fun _ _ => rfl)) pe_int) (pg_sub (pv 0) pe_int set_list))
  (pss_cons (ps_if (PW.pt (pw_and (pt_cmpR (DK.op_eq (K := K) (hr.units)) (pe_ix (DK.ix (K := K)) (pv 0) pe_int (fun _ _ => rfl)) pe_int (nomark _)) (pw_and1 (pt_cmpR (DK.op_ne (K := K) (hr.units)) (pe_ix (DK.ix (K := K)) (pv 0) pe_int (fun _ _ => rfl)) (pe_lst pa_nil) (nomark _)))))
  (pss_cons (ps_asg (pe_bm PySem.F.plainAttrs_list PySem.F.slot_list_pop PySem.F.type_list_pop mt_popAt (pe_ix (DK.ix (K := K)) (pv 0) pe_int (fun _ _ => rfl)) (pa_cons pe_int pa_nil)) (pg_name (i := 3) sc__law_draw.nd rfl (by first | exact .inl rfl | exact .inr rfl)))
  (pss_cons (ps_asg (pe_op op_modK (pe_callTy call_intK (by rfl) T.z_int (by decide +kernel) (pa_cons (pe_op (DK.op_add (K := K)) (pe_op (DK.op_add (K := K)) (pe_op op_mulK (pe_ix (DK.ix (K := K)) (pv 0) pe_int (fun _ _ => rfl)) pe_int) (pv 3)) pe_int) pa_nil)) pe_int) (pg_sub (pv 0) pe_int set_list))
  (pss_one (ps_asg (pe_ifExp (pt_cmpR op_geK (pv 3) (pe_op op_powK pe_int pe_int) (nomark _)) (pv 3) pe_int) (pg_sub (pv 0) pe_int set_list)))))
  pss_nil)
  (pss_cons (ps_if (pt_cmpR op_gtK (pe_ix (DK.ix (K := K)) (pv 0) pe_int (fun _ _ => rfl)) pe_int (nomark _))
  (pss_cons (ps_asg (pe_op op_modK (pe_callTy call_intK (by rfl) T.z_int (by decide +kernel) (pa_cons (pe_ix (DK.ix (K := K)) (pv 0) pe_int (fun _ _ => rfl)) pa_nil)) (pv 1)) (pg_name (i := 4) sc__law_draw.nd rfl (by first | exact .inl rfl | exact .inr rfl)))
  (pss_cons (ps_asg (pe_op op_divK (pe_ix (DK.ix (K := K)) (pv 0) pe_int (fun _ _ => rfl)) (pv 1)) (pg_sub (pv 0) pe_int set_list))
  (pss_one (ps_ret (pv 4)))))
  pss_nil)
  (pss_cons (ps_asg (pe_op op_modK (pe_callTy call_intK (by rfl) T.z_int (by decide +kernel) (pa_cons (pe_op op_powK (pe_op (DK.op_add (K := K)) (pe_op (DK.op_add (K := K)) (pe_ix (DK.ix (K := K)) (pv 0) pe_int (fun _ _ => rfl)) (pe_op op_mulK pe_int (pe_ix (DK.ix (K := K)) (pv 0) pe_int (fun _ _ => rfl)))) pe_int) pe_int) pa_nil)) pe_int) (pg_name (i := 2) sc__law_draw.nd rfl (by first | exact .inl rfl | exact .inr rfl)))
  (pss_one (ps_ret (pe_op op_modK (pe_op op_modK (pe_callTy call_intK (by rfl) T.z_int (by decide +kernel) (pa_cons (pe_op op_powK (pe_op (DK.op_add (K := K)) (pe_op (DK.op_add (K := K)) (pe_op op_mulK (pv 2) pe_int) (pe_op op_mulK pe_int (pe_ix (DK.ix (K := K)) (pv 0) pe_int (fun _ _ => rfl)))) pe_int) pe_int) pa_nil)) pe_int) (pv 1)))))))), fun a l k0 as b cells x nn m hp hl n1 n2 m1 m2 => ?_⟩), m, F.kp, bi⟩
  obtain ⟨n, rfl, hn1, hn2, hb⟩ := hp
  repeat (walk_at "d1")
  -- behind the script's number, if one is read
  have rest : ∀ (cells' : List Int) (x' m' : Int) (cl : Option D), 0 ≤ m' → m' < 2147483647 →
      WS ⟨K, wres a l, k0, H, false, fun _ => none⟩ (tSeq (tIfS (tTest (tOp rGtK (tOp (rIxK K) (tVar 0) (tC (V.int 1))) (tC (V.int 0))))
                        (tSeq
                          (tAsg (tOp rModK (tCB rIntK (tCons (tOp (rIxK K) (tVar 0) (tC (V.int 1))) tNil)) (tVar 1))
                            (gName 4))
                          (tSeq
                            (tAsg (tOp rDivK (tOp (rIxK K) (tVar 0) (tC (V.int 1))) (tVar 1))
                              (gSub (tVar 0) (tC (V.int 1)) rSetL))
                            (tRet (tVar 4))))
                        tNext)
                      (tSeq
                        (tAsg
                          (tOp rModK
                            (tCB rIntK
                              (tCons
                                (tOp rPowK
                                  (tOp (rAddK K)
                                    (tOp (rAddK K) (tOp (rIxK K) (tVar 0) (tC (V.int 3)))
                                      (tOp rMulK (tC (V.int 7919)) (tOp (rIxK K) (tVar 0) (tC (V.int 2)))))
                                    (tC (V.int 104729)))
                                  (tC (V.int 5)))
                                tNil))
                            (tC (V.int 2147483629)))
                          (gName 2))
                        (tRet
                          (tOp rModK
                            (tOp rModK
                              (tCB rIntK
                                (tCons
                                  (tOp rPowK
                                    (tOp (rAddK K)
                                      (tOp (rAddK K) (tOp rMulK (tVar 2) (tC (V.int 48271)))
                                        (tOp rMulK (tC (V.int 30011)) (tOp (rIxK K) (tVar 0) (tC (V.int 2)))))
                                      (tC (V.int 29)))
                                    (tC (V.int 3)))
                                  tNil))
                              (tC (V.int 1000000007)))
                            (tVar 1)))))
        { δ := [some (.ref a), some (.int n), none, cl, none], m := StM a l cells' x' (nn + 1) m', b := 0 }
        { nx := fun _ => False, rt := fun d ς => ∃ cells' x' n' m' b', ς.m = StM a l cells' x' n' m' ∧ 0 ≤ n' ∧ n' ≤ (b' : Nat) ∧ 0 ≤ m' ∧ m' < 2147483647 ∧ (∃ n_1 x : Int, [D.int n] = [.int n_1] ∧ d = .int x ∧ 0 ≤ x ∧ x < n_1 ∧ b' = b + 1) } := fun cells' x' m' cl q1 q2 => by
    repeat (walk_at "d1")
    have lg : n.natAbs.log2 < 9000 := Nat.lt_trans ((Nat.log2_lt (k := 20) (by omega)).mpr (by omega)) (by decide)
    refine brD (fun h => ?_) (fun h => ?_)
    · repeat (walk_at "d1")
      refine rd_mod hn1 ?_
      repeat (walk_at "d1")
      refine rd_div ⟨hn1, lg⟩ ?_
      repeat (walk_at "d1")
      exact ⟨cells', x' / n, nn + 1, m', b + 1, rfl, by omega, by omega, q1, q2, n, x' % n, rfl, rfl, Int.emod_nonneg _ (by omega), Int.emod_lt_of_pos _ hn1, rfl⟩
    · repeat (walk_at "d1")
      refine rd_mul (mul_small (by omega) (by omega)) ?_
      repeat (walk_at "d1")
      refine rd_pow ⟨by omega, by omega, by omega⟩ ?_
      repeat (walk_at "d1")
      refine rd_mod (by omega) ?_
      have y1 : 0 ≤ (m' + 7919 * (nn + 1) + 104729) ^ (5 : Int).toNat % 2147483629 := Int.emod_nonneg _ (by omega)
      have y2 : (m' + 7919 * (nn + 1) + 104729) ^ (5 : Int).toNat % 2147483629 < 2147483629 := Int.emod_lt_of_pos _ (by omega)
      generalize (m' + 7919 * (nn + 1) + 104729) ^ (5 : Int).toNat % 2147483629 = y at y1 y2
      repeat (walk_at "d1")
      refine rd_mul (mul_small (by omega) (by omega)) ?_
      repeat (walk_at "d1")
      refine rd_mul (mul_small (by omega) (by omega)) ?_
      repeat (walk_at "d1")
      refine rd_pow ⟨by omega, by omega, by omega⟩ ?_
      repeat (walk_at "d1")
      refine rd_mod (by omega) ?_
      repeat (walk_at "d1")
      refine rd_mod hn1 ?_
      exact ⟨cells', x', nn + 1, m', b + 1, rfl, by omega, by omega, q1, q2, n, _, rfl, rfl, Int.emod_nonneg _ (by omega), Int.emod_lt_of_pos _ hn1, rfl⟩
  refine brD (fun hx => ?_) (fun hx => ?_)
  · refine wt_test ?_
    refine we_sne (l := l) (cells := cells) ?_
    repeat (walk_at "d1")
    refine ⟨rfl, rfl, ?_⟩
    repeat (walk_at "d1")
    cases cells with
    | nil =>
      repeat first | exact rest [] x m none m1 m2 | walk_at "d1"
    | cons cc cells =>
      repeat (walk_at "d1")
      refine we_spop (l := l) (cc := cc) (cells := cells) (fun _ _ _ _ z => z) ?_
      repeat (walk_at "d1")
      refine ⟨rfl, rfl, ?_⟩
      repeat (walk_at "d1")
      refine rd_mul (mul_small (by omega) (by omega)) ?_
      repeat (walk_at "d1")
      refine rd_mod (by omega) ?_
      have y1 : 0 ≤ (m * 8191 + cc + 3) % 2147483647 := Int.emod_nonneg _ (by omega)
      have y2 : (m * 8191 + cc + 3) % 2147483647 < 2147483647 := Int.emod_lt_of_pos _ (by omega)
      generalize (m * 8191 + cc + 3) % 2147483647 = y at y1 y2
      repeat (walk_at "d1")
      refine rd_pow ⟨by omega, by omega, by omega⟩ ?_
      repeat (walk_at "d1")
      refine brD (fun hc => ?_) (fun hc => ?_)
      · repeat first | exact rest cells cc y _ y1 y2 | walk_at "d1"
      · repeat first | exact rest cells 0 y _ y1 y2 | walk_at "d1"
  · repeat first | exact rest cells x m none m1 m2 | walk_at "d1"
theorem ok_pick (T : Tx P K mg A) : CalX P w K mg base 2 "_law_pick" (SpS K 2 (drawSpc (fun as b => ∃ l : List D, as = [.lst l] ∧ 0 < l.length ∧ l.length ≤ 1000000 ∧ b ≤ 1000000000000) (fun as b d b' => ∃ l : List D, as = [.lst l] ∧ d ∈ l ∧ b' = b + 1))) := by
  have c__law_draw := @ok_draw P w K mg base A T
  obtain ⟨a, fd, F, m, bi⟩ := T.f__law_pick
  refine ⟨a, fd, _, fnS F sc__law_pick rfl (fun cdv A' outer sh H E hr => ⟨_, (pss_one (ps_ret (pe_ix (DK.ix (K := K)) (pv 1) (pe_cx c__law_draw hr (by omega) (by rfl) (passes_call (takes_of rfl rfl rfl rfl) (fun _ _ _ _ z => z)) (pa_cons (pv 0) (pa_cons (pe_callB (DK.len (K := K)) (by rfl) T.z_len (by decide +kernel) (pa_cons (pv 1) pa_nil)) pa_nil))) (fun _ _ => rfl)))), fun R k0 ds b hp hl hE => ?_⟩), m, F.kp, bi⟩
  obtain ⟨aa, l, as, rfl, rfl, ll, rfl, l1, l2, hb⟩ := hp
  repeat (walk_at "s1")
  refine we_callR (SubR.self rfl) (X := fun _ _ _ _ => False) xok0 ?_
  repeat (walk_at "s1")
  refine rc_len (l := ll) rfl ?_
  repeat (walk_at "s1")
  refine ⟨rfl, ⟨aa, l, _, rfl, rfl, ll.length, rfl, by omega, by omega, hb⟩, ?_, fun _ _ _ _ z => z⟩
  rintro d b' ⟨a2, as2, e2, n, x, e3, rfl, x1, x2, rfl⟩
  cases e2
  cases e3
  obtain ⟨i, rfl⟩ := Int.eq_ofNat_of_zero_le x1
  have hi : i < ll.length := by omega
  refine rd_ix (d := ll[i]) rfl (DL.atI_nat (by simp [hi])) ?_
  exact ⟨aa, _, rfl, ll, rfl, List.getElem_mem hi, rfl⟩
theorem str_len {z : Str} : (z.cps.toList.map fun c => D.str ⟨#[c]⟩).length = z.length := by
  rw [List.length_map]
  rfl
theorem ok_pickX (T : Tx P K mg A) : CalX P w K mg base 2 "_law_pick" (SpS K 2 pickX) := by
  have c__law_draw := @ok_draw P w K mg base A T
  obtain ⟨a, fd, F, m, bi⟩ := T.f__law_pick
  refine ⟨a, fd, _, fnS F sc__law_pick rfl (fun cdv A' outer sh H E hr => ⟨_, (pss_one (ps_ret (pe_ix (DK.ix (K := K)) (pv 1) (pe_cx c__law_draw hr (by omega) (by rfl) (passes_call (takes_of rfl rfl rfl rfl) (fun _ _ _ _ z => z)) (pa_cons (pv 0) (pa_cons (pe_callB (DK.len (K := K)) (by rfl) T.z_len (by decide +kernel) (pa_cons (pv 1) pa_nil)) pa_nil))) (fun _ _ => rfl)))), fun R k0 ds b hp hl hE => ?_⟩), m, F.kp, bi⟩
  obtain ⟨aa, l, as, rfl, rfl, x, ll, rfl, ex, l1, l2, hb⟩ := hp
  cases x
  case lst l0 =>
    have e0 : l0 = ll := Option.some.inj ex
    subst e0
    repeat (walk_at "s1")
    refine we_callR (SubR.self rfl) (X := fun _ _ _ _ => False) xok0 ?_
    repeat (walk_at "s1")
    refine rc_len (l := l0) rfl ?_
    repeat (walk_at "s1")
    refine ⟨rfl, ⟨aa, l, _, rfl, rfl, l0.length, rfl, by omega, by omega, hb⟩, ?_, fun _ _ _ _ z => z⟩
    rintro d b' ⟨a2, as2, e2, n, y, e3, rfl, x1, x2, rfl⟩
    cases e2
    cases e3
    obtain ⟨i, rfl⟩ := Int.eq_ofNat_of_zero_le x1
    have hi : i < l0.length := by omega
    refine rd_ix (d := l0[i]) rfl (DL.atI_nat (by simp [hi])) ?_
    exact ⟨aa, _, rfl, .lst l0, l0, rfl, rfl, List.getElem_mem hi, rfl⟩
  case str z =>
    cases ex
    rw [str_len] at l1 l2
    repeat (walk_at "s1")
    refine we_callR (SubR.self rfl) (X := fun _ _ _ _ => False) xok0 ?_
    repeat (walk_at "s1")
    refine rc_lenS (by rw [sizeLine_eq]; omega) ?_
    repeat (walk_at "s1")
    refine ⟨rfl, ⟨aa, l, _, rfl, rfl, z.length, rfl, by omega, by omega, hb⟩, ?_, fun _ _ _ _ z => z⟩
    rintro d b' ⟨a2, as2, e2, n, y, e3, rfl, x1, x2, rfl⟩
    cases e2
    cases e3
    obtain ⟨i, rfl⟩ := Int.eq_ofNat_of_zero_le x1
    have hi : i < z.cps.toList.length := by
      have : z.cps.toList.length = z.length := by rw [← str_len (z := z), List.length_map]
      omega
    refine rd_ixS (c := z.cps.toList[i]) (by rw [sizeLine_eq]; omega) (DL.atI_nat (List.getElem?_eq_getElem hi)) ?_
    exact ⟨aa, _, rfl, .str z, _, rfl, rfl, List.mem_map_of_mem (List.getElem_mem hi), rfl⟩
  all_goals cases ex
end
end K54

set_option Elab.async false
set_option linter.all false
set_option maxRecDepth 100000
set_option maxHeartbeats 4000000
namespace K54
open PySem PySem.Spec PyProof.Rows L2 DL
section
variable {P : Program} {w : World} {K : PySem.W.Frag} {mg : Str → Option Value} {base : Heap} {A : Ad}
local macro_rules | `(tactic| walk_at "s0") => `(tactic| with_reducible first
  | refine ws_seq ?_ | refine ws_next ?_ | refine ws_ret ?_ | refine ws_retN ?_ | refine ws_if ?_ | refine ws_asg ?_ | refine ws_drop ?_ | refine ws_par ?_ | refine ws_break ?_ | refine ws_cont ?_
  | refine we_var rfl ?_ | refine we_int ?_ | refine we_non ?_ | refine we_bl ?_ | refine we_str ?_ | refine we_ty ?_ | refine we_dnew ?_ | refine we_op ?_ | refine we_un ?_
  | refine we_and ?_ | refine we_or ?_ | refine we_not ?_ | refine we_if ?_ | refine we_chain ?_ | refine we_cb ?_ | refine we_tup ?_ | refine we_lst ?_
  | refine wl_cons ?_ | refine wl_nil ?_ | refine wt_B ?_ | refine wt_test ?_ | refine wt_and ?_ | refine wt_or ?_ | refine wt_not ?_ | refine wt_yes ?_
  | refine wi_tup ?_ | refine wi_list ?_ | refine wg_tup rfl ?_ | refine wgs_cons ?_ | refine wgs_nil ?_
  | refine rd_add_int ?_ | refine rd_sub ?_ | refine rd_lt ?_ | refine rd_le ?_ | refine rd_gt ?_ | refine rd_ge ?_ | refine rd_eq_int ?_ | refine rd_ne_int ?_ | refine rd_eq_str ?_ | refine rd_ne_str ?_ | refine rd_eq_bl ?_ | refine rd_ne_bl ?_ | refine rd_is ?_ | refine rd_is_bl ?_ | refine rd_isnot ?_ | refine ru_neg ?_
  | refine rc_int ?_ | refine rc_abs ?_ | refine rc_anyF ?_ | refine rc_allF ?_
  | refine brT ?_ | refine brF ?_ | refine brT' ?_ | refine brF' ?_
  | refine ⟨_, rfl, ?_⟩)
set_option hygiene false in
local macro_rules | `(tactic| walk_at "s1") => `(tactic| first
  | refine we_isiLT ?_ | refine we_isiILT ?_ | refine wi_seqV (by rfl) (by rfl) ?_ | walk_at "s0" | refine ⟨true, by rfl, ?_⟩ | refine ⟨false, by rfl, ?_⟩ | refine we_ref ?_ | refine we_fld1 ?_ | refine ⟨_, _, _, _, rfl, T.n_Gates_prime, by rfl, ?_⟩ | refine ⟨_, _, _, _, rfl, T.n_Gates_rows, by rfl, ?_⟩ | refine ⟨_, _, _, _, rfl, T.n_Gates_worths, by rfl, ?_⟩ | refine ⟨_, _, _, _, rfl, T.n_Poly_prime, by rfl, ?_⟩ | refine ⟨_, _, _, _, rfl, T.n_Poly_row, by rfl, ?_⟩ | refine ⟨_, _, _, _, rfl, T.n_Layers_net, by rfl, ?_⟩ | refine ⟨_, _, _, _, rfl, T.n_Layers_prime, by rfl, ?_⟩ | refine ⟨_, _, _, _, rfl, T.n_Layers_begin, by rfl, ?_⟩ | refine ⟨_, _, _, _, rfl, T.n_Layers_lot, by rfl, ?_⟩ | refine ⟨_, _, _, _, rfl, T.n_Layers_sizes, by rfl, ?_⟩ | refine rc_isiB (r := true) (by rfl) ?_ | refine rc_isiO T.k_Gates ?_ | refine rc_isiN T.k_Gates (by rfl) ?_ | refine rc_isiO T.k_Poly ?_ | refine rc_isiN T.k_Poly (by rfl) ?_ | refine rc_isiO T.k_Layers ?_ | refine rc_isiN T.k_Layers (by rfl) ?_ | refine we_callF (by assumption) ?_ | refine we_callF (X := fun _ _ _ _ => False) xok0 ?_ | refine we_callFl (by assumption) ?_ | refine we_callFl (X := fun _ _ _ _ => False) xok0 ?_ | refine we_makeFl (by assumption) ?_ | refine we_makeFl (X := fun _ _ _ _ => False) xok0 ?_ | refine we_makeF (by assumption) ?_ | refine we_makeF (X := fun _ _ _ _ => False) xok0 ?_ | refine DX.ws_rs (by assumption) ?_ | refine wt_test ?_ | refine co_ret rfl (by rfl) ?_ | refine wg_nm (by rfl) ?_ | refine parB (by rfl) (by rfl) ?_ | refine szB (by rfl) ?_ | refine szL (by rfl) ?_ | refine brT2 (by rfl) ?_ | refine brF2 (by rfl) ?_ | refine brT3 (by rfl) ?_ | refine brF3 (by rfl) ?_ | refine rc_isiB (r := false) (by rfl) ?_)
/-- _law_tried's reading -/
def t_tried (K : PySem.W.Frag) (A : Ad) (q : Str) (f c' : Addr) (tl : XK → Hp → VK → Prop) : TS :=
  tSeq (tAsg (tC .non) (gName 1)) (tSeq (DX.tTryL K 3 [(.ref A.BadPlace, some 2, fun a cls d => tAsg (tTup (tCons (tC (.str "place")) (tCons (tXf a cls d A.BadPlace "thing" (tVar 2)) tNil))) (gName 1)),
      (.ref A.BadCoin, some 2, fun a cls d => tAsg (tTup (tCons (tC (.str "coin")) (tCons (tXf a cls d A.BadCoin "index" (tVar 2)) tNil))) (gName 1)),
      (.ref A.BadThrown, some 2, fun a cls d => tAsg (tTup (tCons (tC (.str "thrown")) (tCons (tXf a cls d A.BadThrown "index" (tVar 2)) tNil))) (gName 1)),
      (.ref A.BadNumber, some 2, fun a cls d => tAsg (tTup (tCons (tC (.str "number")) (tCons (tXf a cls d A.BadNumber "number" (tVar 2)) tNil))) (gName 1))]
    fun E => tDrop (DX.tAct f c' q tl E)) (tRet (tVar 1)))
theorem d__law_tried {X : Cx} {K : PySem.W.Frag} (T : Tx X.prog X.K X.mg A) (hK : X.K = K) {g : Addr} {cdg : Value} {f c' : Addr} {s : Shared} {H : Hp} {q : Str} {tl : XK → Hp → VK → Prop} (act : DX.Acts (DX.Zx X n__law_tried "_law_tried" (defScope s__law_tried) g cdg s H) "_law_ask" f c' q tl) :
    PSs (DX.Zx X n__law_tried "_law_tried" (defScope s__law_tried) g cdg s H).nox (defBody s__law_tried) (t_tried K A q f c' tl) := by
  subst hK
  exact (pss_cons (ps_asg pe_non (pg_name (i := 1) sc__law_tried.nd rfl (by first | exact .inl rfl | exact .inr rfl)))
  (pss_cons (DX.ps_tryL rfl rfl (fun W pn xe tk po E hW => (pss_one (ps_expr (act W pn xe E _ _ tk hW))))
  (.named (i := 2) (DX.nm_ex T.x_BadPlace) sc__law_tried.nd rfl rfl (fun a oe cls d pn hz hf => (pss_one (ps_asg (pe_tup (pa_cons pe_str (pa_cons (DX.pe_exf T.x_BadPlace (by decide) hz hf (pv 2)) pa_nil))) (pg_name (i := 1) sc__law_tried.nd rfl (by first | exact .inl rfl | exact .inr rfl)))))
  (.named (i := 2) (DX.nm_ex T.x_BadCoin) sc__law_tried.nd rfl rfl (fun a oe cls d pn hz hf => (pss_one (ps_asg (pe_tup (pa_cons pe_str (pa_cons (DX.pe_exf T.x_BadCoin (by decide) hz hf (pv 2)) pa_nil))) (pg_name (i := 1) sc__law_tried.nd rfl (by first | exact .inl rfl | exact .inr rfl)))))
  (.named (i := 2) (DX.nm_ex T.x_BadThrown) sc__law_tried.nd rfl rfl (fun a oe cls d pn hz hf => (pss_one (ps_asg (pe_tup (pa_cons pe_str (pa_cons (DX.pe_exf T.x_BadThrown (by decide) hz hf (pv 2)) pa_nil))) (pg_name (i := 1) sc__law_tried.nd rfl (by first | exact .inl rfl | exact .inr rfl)))))
  (.named (i := 2) (DX.nm_ex T.x_BadNumber) sc__law_tried.nd rfl rfl (fun a oe cls d pn hz hf => (pss_one (ps_asg (pe_tup (pa_cons pe_str (pa_cons (DX.pe_exf T.x_BadNumber (by decide) hz hf (pv 2)) pa_nil))) (pg_name (i := 1) sc__law_tried.nd rfl (by first | exact .inl rfl | exact .inr rfl)))))
  .nil)))))
  (pss_one (ps_ret (pv 1)))))
/-- what an outcome is told as -/
inductive Tried (A : Ad) : Out → D → Prop
  | told (v : D) : Tried A (.ret v) .non
  | BadPlace (x_thing : D) : Tried A (.exc A.BadPlace ["thing"] [x_thing]) (.tup [(.str "place"), x_thing])
  | BadCoin (x_index : D) : Tried A (.exc A.BadCoin ["index"] [x_index]) (.tup [(.str "coin"), x_index])
  | BadThrown (x_index : D) : Tried A (.exc A.BadThrown ["index"] [x_index]) (.tup [(.str "thrown"), x_index])
  | BadNumber (x_number : D) : Tried A (.exc A.BadNumber ["number"] [x_number]) (.tup [(.str "number"), x_number])
theorem Tried.len {o : Out} {d : D} (h : Tried A o d) : ∀ C ns fs, o = .exc C ns fs → fs.length = ns.length := by
  intro C ns fs e
  cases h <;> cases e <;> rfl
theorem w_tried {c : Cn} {q : Str} {β : Nat} {o : Out} {d : D} (T : Tx P c.K mg A) (ht : Tried A o d) {f c' : Addr} {tl : XK → Hp → VK → Prop} (hc : ∀ b h, c.R.I b h → h c' = some (LamX.CodeO c' q)) (htl : TlOk c β tl (fun v => o = .ret v) (fun C ns fs => o = .exc C ns fs)) :
    WS c (t_tried c.K A q f c' tl) { δ := startD n__law_tried [.ref f], b := β } { nx := fun _ => False, rt := fun d' ς => d' = d ∧ ς.b = β } := by
  refine ws_seq (ws_asg (we_non (wg_nm (by rfl) (ws_seq ?_))))
  refine ws_tryL rfl ht.len fun kb e0 => ⟨fun C ns fs eo => ?_, fun Ech hE => ?_⟩
  · cases ht with
    | told v => cases eo
    | BadPlace x_thing =>
      cases eo
      refine (hnd_take T.e_BadPlace_BadPlace fun a y => ?_)
      repeat (walk_at "s1")
      refine we_xf ?_
      repeat (walk_at "s1")
      refine ⟨_, _, _, rfl, rfl, ?_⟩
      repeat (walk_at "s1")
      exact ⟨rfl, rfl⟩
    | BadCoin x_index =>
      cases eo
      refine (hnd_skip T.e_BadCoin_BadPlace (hnd_take T.e_BadCoin_BadCoin fun a y => ?_))
      repeat (walk_at "s1")
      refine we_xf ?_
      repeat (walk_at "s1")
      refine ⟨_, _, _, rfl, rfl, ?_⟩
      repeat (walk_at "s1")
      exact ⟨rfl, rfl⟩
    | BadThrown x_index =>
      cases eo
      refine (hnd_skip T.e_BadThrown_BadPlace (hnd_skip T.e_BadThrown_BadCoin (hnd_take T.e_BadThrown_BadThrown fun a y => ?_)))
      repeat (walk_at "s1")
      refine we_xf ?_
      repeat (walk_at "s1")
      refine ⟨_, _, _, rfl, rfl, ?_⟩
      repeat (walk_at "s1")
      exact ⟨rfl, rfl⟩
    | BadNumber x_number =>
      cases eo
      refine (hnd_skip T.e_BadNumber_BadPlace (hnd_skip T.e_BadNumber_BadCoin (hnd_skip T.e_BadNumber_BadThrown (hnd_take T.e_BadNumber_BadNumber fun a y => ?_))))
      repeat (walk_at "s1")
      refine we_xf ?_
      repeat (walk_at "s1")
      refine ⟨_, _, _, rfl, rfl, ?_⟩
      repeat (walk_at "s1")
      exact ⟨rfl, rfl⟩
  · dsimp only [startD, List.map, List.append, List.replicate, List.set] at hE
    refine ws_drop (we_act (htl.at e0) hc hE rfl rfl rfl (fun C ns fs e => ⟨e, rfl⟩) fun v ev => ?_)
    have ed : d = (fun v => .non) v := by cases ht <;> cases ev; rfl
    repeat (walk_at "s1")
    exact ⟨ed.symm, rfl⟩
theorem we_tried {c : Cn} {ς : Sta} {Φ : D → Sta → Prop} {Tb : List (Addr × Str)} {t : XK → TE} {q : Str} {o : Out} {d : D} (T : Tx P c.K mg A) (V : TabR c Tb) (ht : Tried A o d)
    (hb : ∀ c3 : Cn, c3.K = c.K → c3.fr = true → ∀ E, XOk c3 E (fun C ns fs ς1 => o = .exc C ns fs ∧ ς1 = { δ := ς.δ, b := ς.b }) → WE c3 (t E) { δ := ς.δ, b := ς.b } fun v ς1 => o = .ret v ∧ ς1 = { δ := ς.δ, b := ς.b })
    (hq : Φ d ς) : WE c (LamX.tLam Tb (DX.TTof q n__law_tried (t_tried c.K A q)) t) ς Φ := by
  refine we_lam (Φb := fun v => o = .ret v) (Xb := fun C ns fs => o = .exc C ns fs) V hb fun c3 h1 h2 f c' tl hc htl => ?_
  rw [← h1]
  refine ws_mono (w_tried (T := by rw [h1]; exact T) ht hc htl) (fun _ z => z.elim) (fun d' ς1 z => ?_) (fun _ z => z.elim) fun _ z => z.elim
  obtain ⟨rfl, eb⟩ := z
  show Φ d' { ς with b := ς1.b }
  rw [eb]
  exact hq

abbrev q1 : Str := ("_law_layers_refused" ++ ".<locals>.") ++ "<lambda>"
abbrev q2 : Str := ("law" ++ ".<locals>.") ++ "<lambda>"
theorem we_triedM {c : Cn} {ς : Sta} {Φ : D → Sta → Prop} {Tb : List (Addr × Str)} {t : XK → TE} {q : Str} {o : Out} {d : D} (T : Tx P c.K mg A) (V : TabR c Tb) (ht : Tried A o d)
    (hb : ∀ c3 : Cn, c3.K = c.K → c3.fr = true → (∀ o ds, (o, MO.lst ds) ∈ ς.m → HRD c3 o ds) → ∀ E, XOk c3 E (fun C ns fs ς1 => o = .exc C ns fs ∧ ς1 = { δ := ς.δ, b := ς.b }) → WE c3 (t E) { δ := ς.δ, b := ς.b } fun v ς1 => o = .ret v ∧ ς1 = { δ := ς.δ, b := ς.b })
    (hq : Φ d ς) : WE c (LamX.tLam Tb (DX.TTof q n__law_tried (t_tried c.K A q)) t) ς Φ := by
  refine we_lamM (Φb := fun v => o = .ret v) (Xb := fun C ns fs => o = .exc C ns fs) V hb fun c3 h1 h2 f c' tl hc htl => ?_
  rw [← h1]
  refine ws_mono (w_tried (T := by rw [h1]; exact T) ht hc htl) (fun _ z => z.elim) (fun d' ς1 z => ?_) (fun _ z => z.elim) fun _ z => z.elim
  obtain ⟨rfl, eb⟩ := z
  show Φ d' { ς with b := ς1.b }
  rw [eb]
  exact hq
/-- Gates(..) refused -/
theorem we_triedG {c : Cn} {ς : Sta} {Φ : D → Sta → Prop} {Tb : List (Addr × Str)} {q : Str} {d : D} {C : Addr} {ns : List Str} {fs : List D} {ta : TA} {ds0 : List D} (T : Tx P c.K mg A) (V : TabR c Tb) (hds : ds0.length + 1 = 4) (hg : gGates A ds0 = some (.exc C ns fs)) (ht : Tried A (.exc C ns fs) d)
    (ha : ∀ c3 : Cn, c3.K = c.K → WL c3 ta { δ := ς.δ, b := ς.b } fun ds ς1 => ds = ds0 ∧ ς1 = { δ := ς.δ, b := ς.b }) (hq : Φ d ς) :
    WE c (LamX.tLam Tb (DX.TTof q n__law_tried (t_tried c.K A q)) fun E => tMake A.Gates (SpI c.K 4 A.Gates (spcI (gGates A))) [] E ta) ς Φ := by
  refine we_tried T V ht (fun c3 h1 h2 E hE => ?_) hq
  have ha := ha c3 h1
  obtain ⟨K3, R3, k3, h3, f3, b3⟩ := c3
  have h1 : K3 = c.K := h1
  subst h1
  refine we_makeF hE fun σ k hh S Q z => ha σ k hh S Q fun vs k' h' ds ς' S' e r ⟨e1, e2⟩ => z vs k' h' ds ς' S' e r ⟨by rw [e1]; exact hds, _, by rw [e1]; exact hg, .exc ⟨rfl, e2⟩⟩
theorem we_triedMt {c : Cn} {ς : Sta} {Φ : D → Sta → Prop} {Tb : List (Addr × Str)} {q : Str} {d : D} {C : Addr} {m : Str} {nn : Nat} {g : List D → Option Out} {o : Out} {te : TE} {ta : TA} {ns0 : List Str} {fs0 : List D} {ds0 : List D} (T : Tx P c.K mg A) (V : TabR c Tb) (hds : ds0.length + 1 = nn) (hm : m ∉ ns0) (hg : g (.obj C ns0 fs0 :: ds0) = some o) (ht : Tried A o d)
    (he : ∀ c3 : Cn, c3.K = c.K → ∀ Φ' : D → Sta → Prop, Φ' (.obj C ns0 fs0) { δ := ς.δ, b := ς.b } → WE c3 te { δ := ς.δ, b := ς.b } Φ')
    (ha : ∀ c3 : Cn, c3.K = c.K → WL c3 ta { δ := ς.δ, b := ς.b } fun ds ς1 => ds = ds0 ∧ ς1 = { δ := ς.δ, b := ς.b }) (hq : Φ d ς) :
    WE c (LamX.tLam Tb (DX.TTof q n__law_tried (t_tried c.K A q)) fun E => tMeth C m (SpS c.K nn (spcF g)) [] E te ta) ς Φ := by
  refine we_tried T V ht (fun c3 h1 h2 E hE => ?_) hq
  have ha := ha c3 h1
  have he := he c3 h1
  obtain ⟨K3, R3, k3, h3, f3, b3⟩ := c3
  have h1 : K3 = c.K := h1
  subst h1
  refine we_methF hE (he _ ⟨_, _, rfl, hm, fun σ k hh S Q z => ha σ k hh S Q fun vs k' h' ds ς' S' e r ⟨e1, e2⟩ => z vs k' h' ds ς' S' e r ?_⟩)
  subst e1
  refine ⟨hds, o, hg, ?_⟩
  cases o with
  | ret v => exact .ret ⟨rfl, e2⟩
  | exc C ns fs => exact .exc ⟨rfl, e2⟩
/-! extended, refused -/
def plcBad (m : Int) (e : D) : Bool := !(isNon (oddD e) && decide (((itemsD e).length : Int) = m))
noncomputable def gExt (A : Ad) : List D → Option Out := fun ds => gOf (fun x : (Net × D) × D => [nD A x.1.1, x.1.2, x.2]) (fun x => ((tyN x.1.2).isSome = true ∧ okO x.2 = true) ∧ netOk x.1.1.2.1 x.1.1.2.2 ∧ (layN x.1.1.2.1.length x.1.2 = true → plcBad (bitsN (x.1.1.2.2.getD (dInt x.1.2) []).length) x.2 = true))
  (fun x => if layN x.1.1.2.1.length x.1.2 = true then .exc A.BadPlace ["thing"] [x.2] else .exc A.NoLayer ["layer"] [x.1.2]) ds
theorem gExt_eq {A : Ad} {x : Net} {d e : D} (h : (tyN d).isSome = true) (h1 : okO e = true) (h2 : netOk x.2.1 x.2.2) (h3 : layN x.2.1.length d = true → plcBad (bitsN (x.2.2.getD (dInt d) []).length) e = true) : gExt A [nD A x, d, e] = some (if layN x.2.1.length d = true then .exc A.BadPlace ["thing"] [e] else .exc A.NoLayer ["layer"] [d]) :=
  gOf_eq (ar := fun x : (Net × D) × D => [nD A x.1.1, x.1.2, x.2]) (x := ((x, d), e)) (fun x y e => by
    injection e with e1 e
    injection e with e2 e
    injection e with e3 _
    exact Prod.ext (Prod.ext (nD_inj e1) e2) e3) ⟨⟨h, h1⟩, h2, h3⟩
theorem ok_folded0 (T : Tx P K mg A) : CalX P w K mg base 1 "folded" (SpS K 3 (spcF fun _ => none)) := cal_none T.f_folded sc_folded fun R ds b ⟨o, h⟩ => nomatch h
theorem ok_extended (T : Tx P K mg A) : MetX P w K mg base 4 A.Gates "extended" (SpS K 3 (spcF (gExt A))) := by
  have c_Gates_bits := @ok_bits P w K mg base A T
  have c_first_odd := @ok_first_odd P w K mg base A T
  have c_folded := @ok_folded0 P w K mg base A T
  obtain ⟨f, fd, cl, me, F, bi⟩ := T.t_Gates_extended
  refine ⟨f, fd, _, cl, me, fnS F sc_Gates_extended rfl (fun cdv A' outer sh H E hr => ⟨_, (pss_cons (ps_asg (pe_mtx (pv 0) c_Gates_bits hr (by omega) (passes_call (takes_of rfl rfl rfl rfl) (fun _ _ _ _ z => z)) (pa_cons (pv 1) pa_nil)) (pg_name (i := 3) sc_Gates_extended.nd rfl (by first | exact .inl rfl | exact .inr rfl)))
  (pss_cons (ps_if (PW.pt (pw_or (pt_cmpR op_isnotK (pe_cx c_first_odd hr (by omega) (by rfl) (passes_call (takes_of rfl rfl rfl rfl) (fun _ _ _ _ z => z)) (pa_cons (pv 2) pa_nil)) pe_non (nomark _)) (pw_or1 (pt_cmpR (DK.op_ne (K := K) (hr.units)) (pe_callB (DK.len (K := K)) (by rfl) T.z_len (by decide +kernel) (pa_cons (pv 2) pa_nil)) (pv 3) (nomark _)))))
  (pss_one (DX.ps_rs (takes_of rfl rfl rfl rfl) T.x_BadPlace (by decide) (by decide) hr (pa_cons (pv 2) pa_nil)))
  pss_nil)
  (pss_one (ps_ret (pe_cx c_folded hr (by omega) (by rfl) (passes_call (takes_of rfl rfl rfl rfl) (fun _ _ _ _ z => z)) (pa_cons (pe_ix (DK.ix (K := K)) (DK.pe_fld (K := K) (pv 0)) (pv 1) (fun _ _ => rfl)) (pa_cons (pv 2) (pa_cons (DK.pe_fld (K := K) (pv 0)) pa_nil)))))))), fun R k0 ds b hp hl hE => ?_⟩), bi⟩
  obtain ⟨o, ho⟩ := hp
  obtain ⟨⟨⟨⟨p, rs, ws⟩, d⟩, e⟩, rfl, ⟨⟨ok, oe⟩, nk, pb⟩, rfl⟩ := gOf_inv ho
  have hx := xok_def hE
  have hX := xokW hx
  dsimp only at ok oe nk pb ho hl hE hx hX ⊢
  have gc := gBits_eq (A := A) (x := (p, rs, ws)) ok nk
  dsimp only at gc
  cases hn : layN rs.length d with
  | false =>
    rw [hn, if_neg Bool.false_ne_true] at gc ho
    refine ws_seq (ws_asg (we_methF hx (we_var rfl ⟨_, _, rfl, by decide, wl_cons (we_var rfl (wl_nil (co_exc rfl gc ⟨ho, rfl⟩)))⟩)))
  | true =>
    rw [hn, if_pos rfl] at gc ho
    have pb := pb hn
    refine ws_seq (ws_asg (we_methF hx (we_var rfl ⟨_, _, rfl, by decide, wl_cons (we_var rfl (wl_nil (co_ret rfl gc ?_)))⟩)))
    generalize bitsN (ws.getD (dInt d) []).length = mm at pb
    refine wg_nm (by rfl) ?_
    dsimp only [List.set]
    refine ws_seq (ws_if (wt_or (wt_test (we_op (we_callFl (X := fun _ _ _ _ => False) xok0 (wl_cons (we_var rfl (wl_nil (co_ret rfl (show gOdd [e] = some (.ret (oddD e)) from if_pos oe) ?_)))))))))
    refine we_non (rd_isnot ?_)
    cases hz : isNon (oddD e) with
    | false =>
      repeat (walk_at "s1")
      exact ⟨rfl, ho, rfl⟩
    | true =>
      obtain ⟨xs, lx, es, ei, _⟩ := ints_I oe hz
      have sq : seqOf e = some (xs.map D.int) := by rcases es with rfl | rfl <;> rfl
      refine ⟨false, rfl, ?_⟩
      refine ⟨fun _ => ?_, fun z => (nomatch z)⟩
      refine wt_test (we_op (we_cb (wl_cons (we_var rfl (wl_nil (rc_len sq ?_))))))
      unfold plcBad at pb
      rw [hz, ei] at pb
      refine we_var rfl (rd_ne_int ⟨_, rfl, ?_⟩)
      have pb : (!decide (((xs.map D.int).length : Int) = mm)) = true := pb
      rw [pb]
      repeat (walk_at "s1")
      exact ⟨rfl, ho, rfl⟩
end
end K54

set_option Elab.async false
set_option linter.all false
set_option maxRecDepth 100000
set_option maxHeartbeats 4000000
namespace K54
open PySem PySem.Spec PyProof.Rows L2 DL
section
variable {P : Program} {w : World} {K : PySem.W.Frag} {mg : Str → Option Value} {base : Heap} {A : Ad}
local macro_rules | `(tactic| walk_at "s0") => `(tactic| with_reducible first
  | refine ws_seq ?_ | refine ws_next ?_ | refine ws_ret ?_ | refine ws_retN ?_ | refine ws_if ?_ | refine ws_asg ?_ | refine ws_drop ?_ | refine ws_par ?_ | refine ws_break ?_ | refine ws_cont ?_
  | refine we_var rfl ?_ | refine we_int ?_ | refine we_non ?_ | refine we_bl ?_ | refine we_str ?_ | refine we_ty ?_ | refine we_dnew ?_ | refine we_op ?_ | refine we_un ?_
  | refine we_and ?_ | refine we_or ?_ | refine we_not ?_ | refine we_if ?_ | refine we_chain ?_ | refine we_cb ?_ | refine we_tup ?_ | refine we_lst ?_
  | refine wl_cons ?_ | refine wl_nil ?_ | refine wt_B ?_ | refine wt_test ?_ | refine wt_and ?_ | refine wt_or ?_ | refine wt_not ?_ | refine wt_yes ?_
  | refine wi_tup ?_ | refine wi_list ?_ | refine wg_tup rfl ?_ | refine wgs_cons ?_ | refine wgs_nil ?_
  | refine rd_add_int ?_ | refine rd_sub ?_ | refine rd_lt ?_ | refine rd_le ?_ | refine rd_gt ?_ | refine rd_ge ?_ | refine rd_eq_int ?_ | refine rd_ne_int ?_ | refine rd_eq_str ?_ | refine rd_ne_str ?_ | refine rd_eq_bl ?_ | refine rd_ne_bl ?_ | refine rd_is ?_ | refine rd_is_bl ?_ | refine rd_isnot ?_ | refine ru_neg ?_
  | refine rc_int ?_ | refine rc_abs ?_ | refine rc_anyF ?_ | refine rc_allF ?_
  | refine brT ?_ | refine brF ?_ | refine brT' ?_ | refine brF' ?_
  | refine ⟨_, rfl, ?_⟩)
set_option hygiene false in
local macro_rules | `(tactic| walk_at "s1") => `(tactic| first
  | refine we_isiLT ?_ | refine we_isiILT ?_ | refine wi_seqV (by rfl) (by rfl) ?_ | walk_at "s0" | refine ⟨true, by rfl, ?_⟩ | refine ⟨false, by rfl, ?_⟩ | refine we_ref ?_ | refine we_fld1 ?_ | refine ⟨_, _, _, _, rfl, T.n_Gates_prime, by rfl, ?_⟩ | refine ⟨_, _, _, _, rfl, T.n_Gates_rows, by rfl, ?_⟩ | refine ⟨_, _, _, _, rfl, T.n_Gates_worths, by rfl, ?_⟩ | refine ⟨_, _, _, _, rfl, T.n_Poly_prime, by rfl, ?_⟩ | refine ⟨_, _, _, _, rfl, T.n_Poly_row, by rfl, ?_⟩ | refine ⟨_, _, _, _, rfl, T.n_Layers_net, by rfl, ?_⟩ | refine ⟨_, _, _, _, rfl, T.n_Layers_prime, by rfl, ?_⟩ | refine ⟨_, _, _, _, rfl, T.n_Layers_begin, by rfl, ?_⟩ | refine ⟨_, _, _, _, rfl, T.n_Layers_lot, by rfl, ?_⟩ | refine ⟨_, _, _, _, rfl, T.n_Layers_sizes, by rfl, ?_⟩ | refine rc_isiB (r := true) (by rfl) ?_ | refine rc_isiO T.k_Gates ?_ | refine rc_isiN T.k_Gates (by rfl) ?_ | refine rc_isiO T.k_Poly ?_ | refine rc_isiN T.k_Poly (by rfl) ?_ | refine rc_isiO T.k_Layers ?_ | refine rc_isiN T.k_Layers (by rfl) ?_ | refine we_callF (by assumption) ?_ | refine we_callF (X := fun _ _ _ _ => False) xok0 ?_ | refine we_callFl (by assumption) ?_ | refine we_callFl (X := fun _ _ _ _ => False) xok0 ?_ | refine we_makeFl (by assumption) ?_ | refine we_makeFl (X := fun _ _ _ _ => False) xok0 ?_ | refine we_makeF (by assumption) ?_ | refine we_makeF (X := fun _ _ _ _ => False) xok0 ?_ | refine DX.ws_rs (by assumption) ?_ | refine wt_test ?_ | refine co_ret rfl (by rfl) ?_ | refine wg_nm (by rfl) ?_ | refine parB (by rfl) (by rfl) ?_ | refine szB (by rfl) ?_ | refine szL (by rfl) ?_ | refine brT2 (by rfl) ?_ | refine brF2 (by rfl) ?_ | refine brT3 (by rfl) ?_ | refine brF3 (by rfl) ?_ | refine rc_isiB (r := false) (by rfl) ?_)
/-! a drawn net -/
def deedG (g : Gt) : Prop := g.1 = "+" ∨ g.1 = "*"
abbrev gatesS : Spc := drawSpc (fun as b => ∃ n c : Int, as = [.int n, .int c] ∧ 0 ≤ n ∧ n ≤ 10 ∧ 0 < c ∧ c ≤ 10 ∧ b ≤ 100000000000)
  (fun as b d b' => ∃ (n c : Int) (gs : List Gt), as = [.int n, .int c] ∧ d = .lst (gs.map tD) ∧ gs.length = n.toNat ∧ (∀ g ∈ gs, deedG g ∧ gtOk c.toNat g) ∧ b' = b + 3 * n.toNat)
theorem sign_of {d : D} (h : d ∈ (("+*" : Str).cps.toList.map fun c => D.str ⟨#[c]⟩)) : ∃ z : Str, d = .str z ∧ (z = "+" ∨ z = "*") := by
  have e : (("+*" : Str).cps.toList.map fun c => D.str ⟨#[c]⟩) = [.str "+", .str "*"] := by rfl
  rw [e] at h
  simp only [List.mem_cons, List.not_mem_nil, or_false] at h
  rcases h with rfl | rfl
  · exact ⟨_, rfl, .inl rfl⟩
  · exact ⟨_, rfl, .inr rfl⟩
theorem ok_l_gates (T : Tx P K mg A) : CalX P w K mg base 3 "_law_l_gates" (SpS K 3 gatesS) := by
  have c__law_draw := @ok_draw P w K mg base A T
  have c__law_pick := @ok_pickX P w K mg base A T
  obtain ⟨a, fd, F, m, bi⟩ := T.f__law_l_gates
  refine ⟨a, fd, _, fnS F sc__law_l_gates rfl (fun cdv A' outer sh H E hr => ⟨_, (pss_one (ps_ret (pe_lc (own := [("_law_k", 3)]) (g := (gName 3)) (tt := tYes) rfl sc__law_l_gates.nd (pi_range1 (by rfl) T.z_range (pa_cons (pv 1) pa_nil)) (blkOk_by (own := [("_law_k", 3)]) (N := n__law_l_gates) (sc := (defScope s__law_l_gates)) (by first | decide +kernel | kernel_rfl)) (fun _ _ _ _ _ => (pg_name (i := 3) sc__law_l_gates.nd rfl (by first | exact .inl rfl | exact .inr rfl))) (fun _ _ _ _ _ => pts_nil) (fun _ _ _ _ _ => (pe_tup (pa_cons (pe_cx c__law_pick hr (by omega) (by rfl) passL (pa_cons (pv 0) (pa_cons pe_str pa_nil))) (pa_cons (pe_cx c__law_draw hr (by omega) (by rfl) passL (pa_cons (pv 0) (pa_cons (pv 2) pa_nil))) (pa_cons (pe_cx c__law_draw hr (by omega) (by rfl) passL (pa_cons (pv 0) (pa_cons (pv 2) pa_nil))) pa_nil)))))))), fun R k0 ds b hp hl hE => ?_⟩), m, F.kp, bi⟩
  obtain ⟨aa, ll, as, rfl, rfl, n, c, rfl, n1, n2, c1, c2, hb⟩ := hp
  refine ws_ret (we_lc (kg_name (by decide)) ?_)
  refine wi_rng1 (wl_cons (we_var rfl (wl_nil ⟨n, rfl, by omega, by omega, ?_⟩)))
  refine ⟨fun j acc b' => ∃ gs : List Gt, acc = gs.map tD ∧ gs.length = j ∧ (∀ g ∈ gs, deedG g ∧ gtOk c.toNat g) ∧ b' = b + 3 * j, ⟨[], rfl, rfl, fun _ h => absurd h (by simp), rfl⟩, ?_, ?_⟩
  · rintro j d acc b' oo hj ⟨gs, rfl, rfl, hgs, rfl⟩
    have jl : gs.length < n.toNat := (rngD_get hj).2
    refine wg_nm (by rfl) ?_
    refine wt_yes ⟨fun _ => ?_, fun z => (nomatch z)⟩
    refine we_tup (wl_cons ?_)
    refine we_pickX (SubR.self rfl) (by rfl) (we_str ⟨_, rfl, by decide, by decide, by dsimp only; omega, fun x hx => ?_⟩)
    obtain ⟨z, rfl, hz⟩ := sign_of hx
    refine wl_cons (we_drawE (SubR.self rfl) (by rfl) (we_var rfl ⟨c, rfl, by omega, by omega, by dsimp only; omega, fun y y1 y2 => ?_⟩))
    refine wl_cons (we_drawE (SubR.self rfl) (by rfl) (we_var rfl ⟨c, rfl, by omega, by omega, by dsimp only; omega, fun u u1 u2 => ?_⟩))
    refine wl_nil (szB rfl ⟨by rw [List.length_map]; exact lt_size (by omega), rfl, gs ++ [(z, y, u)], by rw [List.map_append]; rfl, by rw [List.length_append]; rfl, fun g hg => ?_, by dsimp only; omega⟩)
    rcases List.mem_append.mp hg with hg | hg
    · exact hgs g hg
    · rw [List.mem_singleton.mp hg]
      exact ⟨hz, ⟨y1, by show y < ((c.toNat : Nat) : Int); omega⟩, u1, by show u < ((c.toNat : Nat) : Int); omega⟩
  · rintro acc b' ⟨gs, rfl, lg, hgs, rfl⟩
    rw [rngD_len] at lg
    refine ⟨aa, _, rfl, n, c, gs, rfl, rfl, lg, hgs, ?_⟩
    dsimp only
    rw [rngD_len]
def nextLen (rs : List (List Gt)) (inp : List Int) (i : Nat) : Nat := ((rs.drop (i + 1)).head?.map List.length).getD inp.length
structure planOk (rs : List (List Gt)) (inp : List Int) : Prop where
  len : 1 ≤ rs.length ∧ rs.length ≤ 3
  lay : ∀ gs ∈ rs, lenOk gs.length = true
  li : lenOk inp.length = true
  gts : ∀ i gs, rs[i]? = some gs → ∀ g ∈ gs, deedG g ∧ gtOk (nextLen rs inp i) g
abbrev planS : Spc := drawSpc (fun as b => ∃ p n : Int, as = [.int p, .int n, .lst [.int 1, .int 2, .int 2, .int 4]] ∧ (2 ≤ p ∧ p ≤ 101) ∧ (1 ≤ n ∧ n ≤ 3) ∧ b ≤ 10000000000)
  (fun as b d b' => ∃ (p n : Int) (l : D) (rs : List (List Gt)) (inp : List Int), as = [.int p, .int n, l] ∧ d = .tup [.int p, rowsD rs, iL inp] ∧ planOk rs inp ∧ b' ≤ b + 60)
theorem lot_of {d : D} (h : d ∈ [D.int 1, .int 2, .int 2, .int 4]) : ∃ n : Nat, d = .int (n : Int) ∧ lenOk n = true := by
  simp only [List.mem_cons, List.not_mem_nil, or_false] at h
  rcases h with rfl | rfl | rfl | rfl
  · exact ⟨1, rfl, rfl⟩
  · exact ⟨2, rfl, rfl⟩
  · exact ⟨2, rfl, rfl⟩
  · exact ⟨4, rfl, rfl⟩
theorem lenOk_le {n : Nat} (h : lenOk n = true) : 1 ≤ n ∧ n ≤ 4 := by
  unfold lenOk at h
  simp [bitsT] at h
  omega
def natD (l : List Nat) : List D := l.map fun n : Nat => D.int (n : Int)
theorem nat_at {l : List Nat} {i : Nat} (h : i < l.length) : atI (natD l) (i : Int) = some (.int ((l.getD i 0 : Nat) : Int)) ∧ l.getD i 0 ∈ l := by
  have e : l[i]? = some l[i] := List.getElem?_eq_getElem h
  have e2 : l.getD i 0 = l[i] := by rw [List.getD_eq_getElem?_getD, e]; rfl
  rw [e2]
  exact ⟨DL.atI_nat (by unfold natD; rw [List.getElem?_map, e]; rfl), List.getElem_mem h⟩
set_option maxHeartbeats 16000000 in
theorem ok_l_plan (T : Tx P K mg A) : CalX P w K mg base 4 "_law_l_plan" (SpS K 4 planS) := by
  have c__law_draw := @ok_draw P w K mg base A T
  have c__law_pick := @ok_pickX P w K mg base A T
  have c__law_l_gates := @ok_l_gates P w K mg base A T
  obtain ⟨a, fd, F, m, bi⟩ := T.f__law_l_plan
  refine ⟨a, fd, _, fnS F sc__law_l_plan rfl (fun cdv A' outer sh H E hr => ⟨_, (pss_cons (ps_asg (pe_lc (own := [("_law_k", 6)]) (g := (gName 6)) (tt := tYes) rfl sc__law_l_plan.nd (pi_range1 (by rfl) T.z_range (pa_cons (pe_op (DK.op_add (K := K)) (pv 2) pe_int) pa_nil)) (blkOk_by (own := [("_law_k", 6)]) (N := n__law_l_plan) (sc := (defScope s__law_l_plan)) (by first | decide +kernel | kernel_rfl)) (fun _ _ _ _ _ => (pg_name (i := 6) sc__law_l_plan.nd rfl (by first | exact .inl rfl | exact .inr rfl))) (fun _ _ _ _ _ => pts_nil) (fun _ _ _ _ _ => (pe_cx c__law_pick hr (by omega) (by rfl) passL (pa_cons (pv 0) (pa_cons (pv 3) pa_nil))))) (pg_name (i := 4) sc__law_l_plan.nd rfl (by first | exact .inl rfl | exact .inr rfl)))
  (pss_cons (ps_setLc (i := 5) (own := [("_law_k", 6)]) (g := (gName 6)) (tt := tYes) rfl sc__law_l_plan.nd rfl rfl (sw_true rfl rfl rfl (by decide +kernel)) (pi_range1 (by rfl) T.z_range (pa_cons (pv 2) pa_nil)) (blkOk_by (own := [("_law_k", 6)]) (N := n__law_l_plan) (sc := (defScope s__law_l_plan)) (by first | decide +kernel | kernel_rfl)) (fun _ _ _ _ _ => (pg_name (i := 6) sc__law_l_plan.nd rfl (by first | exact .inl rfl | exact .inr rfl))) (fun _ _ _ _ _ => pts_nil) (fun _ _ _ _ _ => (pe_cx c__law_l_gates hr (by omega) (by rfl) passL (pa_cons (pv 0) (pa_cons (pe_ix (DK.ix (K := K)) (pv 4) (pv 6) (fun _ _ => rfl)) (pa_cons (pe_ix (DK.ix (K := K)) (pv 4) (pe_op (DK.op_add (K := K)) (pv 6) pe_int) (fun _ _ => rfl)) pa_nil))))))
  (pss_one (ps_ret (pe_tup (pa_cons (pv 1) (pa_cons (pv 5) (pa_cons (pe_lc (own := [("_law_k", 6)]) (g := (gName 6)) (tt := tYes) rfl sc__law_l_plan.nd (pi_range1 (by rfl) T.z_range (pa_cons (pe_ix (DK.ix (K := K)) (pv 4) (pv 2) (fun _ _ => rfl)) pa_nil)) (blkOk_by (own := [("_law_k", 6)]) (N := n__law_l_plan) (sc := (defScope s__law_l_plan)) (by first | decide +kernel | kernel_rfl)) (fun _ _ _ _ _ => (pg_name (i := 6) sc__law_l_plan.nd rfl (by first | exact .inl rfl | exact .inr rfl))) (fun _ _ _ _ _ => pts_nil) (fun _ _ _ _ _ => (pe_op op_subK (pe_cx c__law_draw hr (by omega) (by rfl) passL (pa_cons (pv 0) (pa_cons (pe_op (DK.op_add (K := K)) (pv 1) pe_int) pa_nil))) pe_int))) pa_nil)))))))), fun R k0 ds b hp hl hE => ?_⟩), m, F.kp, bi⟩
  obtain ⟨aa, ll, as, rfl, rfl, p, n, rfl, ⟨p1, p2⟩, ⟨n1, n2⟩, hb⟩ := hp
  obtain ⟨n, rfl⟩ := Int.eq_ofNat_of_zero_le (show 0 ≤ n by omega)
  -- lots
  refine ws_seq (ws_asg (we_lc (kg_name (by decide)) ?_))
  refine wi_rng1 (wl_cons (we_op (we_var rfl (we_int (rd_add_int (wl_nil ⟨_, rfl, by omega, by omega, ?_⟩))))))
  refine ⟨fun j acc b' => ∃ lots : List Nat, acc = natD lots ∧ lots.length = j ∧ (∀ x ∈ lots, lenOk x = true) ∧ b' = b + j, ⟨[], rfl, rfl, fun _ h => absurd h (by simp), rfl⟩, ?_, ?_⟩
  · rintro j d acc b' oo hj ⟨lots, rfl, rfl, hlo, rfl⟩
    have jl := (rngD_get hj).2
    refine wg_nm (by rfl) ?_
    refine wt_yes ⟨fun _ => ?_, fun z => (nomatch z)⟩
    refine we_pickX (SubR.self rfl) (by rfl) (we_var rfl ⟨_, rfl, (by show 0 < 4; decide), (by show 4 ≤ 1000000; decide), by dsimp only; omega, fun x hx => ?_⟩)
    obtain ⟨x, rfl, hxl⟩ := lot_of hx
    refine ⟨by unfold natD; rw [List.length_map]; exact lt_size (by omega), rfl, lots ++ [x], by unfold natD; rw [List.map_append]; rfl, by rw [List.length_append]; rfl, fun y hy => ?_, by dsimp only; omega⟩
    rcases List.mem_append.mp hy with hy | hy
    · exact hlo y hy
    · rw [List.mem_singleton.mp hy]
      exact hxl
  rintro acc b' ⟨lots, rfl, l0, hlo, rfl⟩
  rw [rngD_len] at l0
  have l0 : lots.length = n + 1 := by omega
  refine wg_nm (by rfl) ?_
  dsimp only [List.set]
  rw [rngD_len]
  generalize hb1 : b + ((n : Int) + 1).toNat = b1
  have hb1 : b1 ≤ b + 4 := by omega
  -- layers
  refine ws_seq (ws_asg (we_lc (kg_name (by decide)) ?_))
  refine wi_rng1 (wl_cons (we_var rfl (wl_nil ⟨_, rfl, by omega, by omega, ?_⟩)))
  refine ⟨fun j acc b' => ∃ rs : List (List Gt), acc = rs.map (fun gs => D.lst (gs.map tD)) ∧ rs.length = j ∧ (∀ i gs, rs[i]? = some gs → gs.length = lots.getD i 0 ∧ ∀ g ∈ gs, deedG g ∧ gtOk (lots.getD (i + 1) 0) g) ∧ b' ≤ b1 + 12 * j, ⟨[], rfl, rfl, fun _ _ h => by simp at h, by dsimp only; omega⟩, ?_, ?_⟩
  · rintro j d acc b' oo hj ⟨rs, rfl, rfl, hrs, hb2⟩
    obtain ⟨rfl, jl⟩ := rngD_get hj
    have z0 : (0 : Int) + ((rs.length : Nat) : Int) = ((rs.length : Nat) : Int) := by omega
    rw [z0]
    have jl : rs.length < n := by omega
    obtain ⟨a1, m1⟩ := nat_at (l := lots) (i := rs.length) (by omega)
    obtain ⟨a2, m2⟩ := nat_at (l := lots) (i := rs.length + 1) (by omega)
    have b3 := lenOk_le (hlo _ m1)
    have b4 := lenOk_le (hlo _ m2)
    refine wg_nm (by rfl) ?_
    refine wt_yes ⟨fun _ => ?_, fun z => (nomatch z)⟩
    refine we_callR (SubR.self rfl) (X := fun _ _ _ _ => False) xok0 ?_
    refine wl_cons (we_var rfl (wl_cons (we_op (we_var rfl (we_var rfl (rd_ix rfl a1 ?_))))))
    refine wl_cons (we_op (we_var rfl (we_op (we_var rfl (we_int (rd_add_int ?_))))))
    have z1 : ((rs.length : Nat) : Int) + 1 = ((rs.length + 1 : Nat) : Int) := by omega
    rw [z1]
    refine rd_ix rfl a2 (wl_nil ?_)
    refine ⟨rfl, ⟨aa, ll, _, rfl, rfl, _, _, rfl, by omega, by omega, by omega, by omega, by dsimp only; omega⟩, ?_, fun _ _ _ _ z => z⟩
    rintro d' b5 ⟨a5, as5, e5, n5, c5, gs, e6, rfl, lg, hg, rfl⟩
    cases e5
    injection e6 with e6 e7
    injection e7 with e7 _
    injection e6 with e6
    injection e7 with e7
    subst e6 e7
    rw [Int.toNat_natCast] at lg
    have hg : ∀ g ∈ gs, deedG g ∧ gtOk (lots.getD (rs.length + 1) 0) g := fun g h => by
      have z := hg g h
      rw [Int.toNat_natCast] at z
      exact z
    refine ⟨by rw [List.length_map]; exact lt_size (by omega), rfl, rs ++ [gs], by rw [List.map_append]; rfl, by rw [List.length_append]; rfl, fun i gs' hi => ?_, by dsimp only; omega⟩
    by_cases hi2 : i < rs.length
    · rw [List.getElem?_append_left hi2] at hi
      exact hrs i gs' hi
    · have ei : i = rs.length := by
        have := (List.getElem?_eq_some_iff.mp hi).1
        rw [List.length_append] at this
        have : i < rs.length + 1 := this
        omega
      subst ei
      rw [List.getElem?_append_right (Nat.le_refl _), Nat.sub_self] at hi
      cases hi
      exact ⟨lg, hg⟩
  rintro acc b' ⟨rs, rfl, lr, hrs, hb2⟩
  rw [rngD_len, Int.toNat_natCast] at lr
  rw [rngD_len] at hb2
  have hb2 : b' ≤ b + 40 := by omega
  refine wg_nm (by rfl) ?_
  dsimp only [List.set]
  obtain ⟨a1, m1⟩ := nat_at (l := lots) (i := n) (by omega)
  have b3 := lenOk_le (hlo _ m1)
  refine ws_ret (we_tup (wl_cons (we_var rfl (wl_cons (we_var rfl (wl_cons (we_lc (kg_name (by decide)) ?_)))))))
  refine wi_rng1 (wl_cons (we_op (we_var rfl (we_var rfl (rd_ix rfl a1 (wl_nil ⟨_, rfl, by omega, by omega, ?_⟩))))))
  refine ⟨fun j acc b2 => ∃ inp : List Int, acc = inp.map D.int ∧ inp.length = j ∧ b2 ≤ b + 40 + j, ⟨[], rfl, rfl, by dsimp only; omega⟩, ?_, ?_⟩
  · rintro j d acc b2 oo hj ⟨inp, rfl, rfl, hb3⟩
    have jl := (rngD_get hj).2
    refine wg_nm (by rfl) ?_
    refine wt_yes ⟨fun _ => ?_, fun z => (nomatch z)⟩
    refine we_op (we_drawE (SubR.self rfl) (by rfl) (we_op (we_var rfl (we_int (rd_add_int ⟨_, rfl, by omega, by omega, by dsimp only; omega, fun y y1 y2 => ?_⟩)))))
    refine we_int (rd_sub ?_)
    exact ⟨by rw [List.length_map]; exact lt_size (by omega), rfl, inp ++ [y - 2], by rw [List.map_append]; rfl, by rw [List.length_append]; rfl, by dsimp only; omega⟩
  rintro acc b2 ⟨inp, rfl, li, hb3⟩
  rw [rngD_len, Int.toNat_natCast] at li
  refine wl_nil (szB rfl ⟨aa, _, rfl, p, n, _, rs, inp, rfl, rfl, ⟨by omega, fun gs h => ?_, by rw [li]; exact hlo _ m1, fun i gs hi g hg => ?_⟩, ?_⟩)
  · obtain ⟨i, hi, e⟩ := List.mem_iff_getElem.mp h
    obtain ⟨z, _⟩ := hrs i gs (by rw [List.getElem?_eq_getElem hi, e])
    obtain ⟨_, m2⟩ := nat_at (l := lots) (i := i) (by omega)
    rw [z]
    exact hlo _ m2
  · obtain ⟨z, hz⟩ := hrs i gs hi
    have il := (List.getElem?_eq_some_iff.mp hi).1
    have e : nextLen rs inp i = lots.getD (i + 1) 0 := by
      unfold nextLen
      by_cases h : i + 1 < rs.length
      · rw [List.drop_eq_getElem_cons h]
        exact (hrs (i + 1) _ (List.getElem?_eq_getElem h)).1
      · rw [List.drop_of_length_le (by omega)]
        have e : i + 1 = n := by omega
        rw [e]
        exact li
    rw [e]
    exact hz g hg
  · dsimp only
    rw [rngD_len] at hb3
    omega
end
end K54

set_option Elab.async false
set_option linter.all false
set_option maxRecDepth 100000
set_option maxHeartbeats 4000000
namespace K54
open PySem PySem.Spec PyProof.Rows L2 DL
section
variable {P : Program} {w : World} {K : PySem.W.Frag} {mg : Str → Option Value} {base : Heap} {A : Ad}
local macro_rules | `(tactic| walk_at "s0") => `(tactic| with_reducible first
  | refine ws_seq ?_ | refine ws_next ?_ | refine ws_ret ?_ | refine ws_retN ?_ | refine ws_if ?_ | refine ws_asg ?_ | refine ws_drop ?_ | refine ws_par ?_ | refine ws_break ?_ | refine ws_cont ?_
  | refine we_var rfl ?_ | refine we_int ?_ | refine we_non ?_ | refine we_bl ?_ | refine we_str ?_ | refine we_ty ?_ | refine we_dnew ?_ | refine we_op ?_ | refine we_un ?_
  | refine we_and ?_ | refine we_or ?_ | refine we_not ?_ | refine we_if ?_ | refine we_chain ?_ | refine we_cb ?_ | refine we_tup ?_ | refine we_lst ?_
  | refine wl_cons ?_ | refine wl_nil ?_ | refine wt_B ?_ | refine wt_test ?_ | refine wt_and ?_ | refine wt_or ?_ | refine wt_not ?_ | refine wt_yes ?_
  | refine wi_tup ?_ | refine wi_list ?_ | refine wg_tup rfl ?_ | refine wgs_cons ?_ | refine wgs_nil ?_
  | refine rd_add_int ?_ | refine rd_sub ?_ | refine rd_lt ?_ | refine rd_le ?_ | refine rd_gt ?_ | refine rd_ge ?_ | refine rd_eq_int ?_ | refine rd_ne_int ?_ | refine rd_eq_str ?_ | refine rd_ne_str ?_ | refine rd_eq_bl ?_ | refine rd_ne_bl ?_ | refine rd_is ?_ | refine rd_is_bl ?_ | refine rd_isnot ?_ | refine ru_neg ?_
  | refine rc_int ?_ | refine rc_abs ?_ | refine rc_anyF ?_ | refine rc_allF ?_
  | refine brT ?_ | refine brF ?_ | refine brT' ?_ | refine brF' ?_
  | refine ⟨_, rfl, ?_⟩)
set_option hygiene false in
local macro_rules | `(tactic| walk_at "s1") => `(tactic| first
  | refine we_isiLT ?_ | refine we_isiILT ?_ | refine wi_seqV (by rfl) (by rfl) ?_ | walk_at "s0" | refine ⟨true, by rfl, ?_⟩ | refine ⟨false, by rfl, ?_⟩ | refine we_ref ?_ | refine we_fld1 ?_ | refine ⟨_, _, _, _, rfl, T.n_Gates_prime, by rfl, ?_⟩ | refine ⟨_, _, _, _, rfl, T.n_Gates_rows, by rfl, ?_⟩ | refine ⟨_, _, _, _, rfl, T.n_Gates_worths, by rfl, ?_⟩ | refine ⟨_, _, _, _, rfl, T.n_Poly_prime, by rfl, ?_⟩ | refine ⟨_, _, _, _, rfl, T.n_Poly_row, by rfl, ?_⟩ | refine ⟨_, _, _, _, rfl, T.n_Layers_net, by rfl, ?_⟩ | refine ⟨_, _, _, _, rfl, T.n_Layers_prime, by rfl, ?_⟩ | refine ⟨_, _, _, _, rfl, T.n_Layers_begin, by rfl, ?_⟩ | refine ⟨_, _, _, _, rfl, T.n_Layers_lot, by rfl, ?_⟩ | refine ⟨_, _, _, _, rfl, T.n_Layers_sizes, by rfl, ?_⟩ | refine rc_isiB (r := true) (by rfl) ?_ | refine rc_isiO T.k_Gates ?_ | refine rc_isiN T.k_Gates (by rfl) ?_ | refine rc_isiO T.k_Poly ?_ | refine rc_isiN T.k_Poly (by rfl) ?_ | refine rc_isiO T.k_Layers ?_ | refine rc_isiN T.k_Layers (by rfl) ?_ | refine we_callF (by assumption) ?_ | refine we_callF (X := fun _ _ _ _ => False) xok0 ?_ | refine we_callFl (by assumption) ?_ | refine we_callFl (X := fun _ _ _ _ => False) xok0 ?_ | refine we_makeFl (by assumption) ?_ | refine we_makeFl (X := fun _ _ _ _ => False) xok0 ?_ | refine we_makeF (by assumption) ?_ | refine we_makeF (X := fun _ _ _ _ => False) xok0 ?_ | refine DX.ws_rs (by assumption) ?_ | refine wt_test ?_ | refine co_ret rfl (by rfl) ?_ | refine wg_nm (by rfl) ?_ | refine parB (by rfl) (by rfl) ?_ | refine szB (by rfl) ?_ | refine szL (by rfl) ?_ | refine brT2 (by rfl) ?_ | refine brF2 (by rfl) ?_ | refine brT3 (by rfl) ?_ | refine brF3 (by rfl) ?_ | refine rc_isiB (r := false) (by rfl) ?_)
/-! coins -/
def isPt : D → Option (Int × Int)
  | .tup [.int a, .int b] => some (a, b)
  | .lst [.int a, .int b] => some (a, b)
  | _ => none
def cn2 : List D → Bool
  | [.int _, .int y] => decide (1 ≤ y)
  | _ => false
def isCn (d : D) : Option (Int × Int) := (isPt d).bind fun q => if 1 ≤ q.2 then some q else none
theorem isCn_seq {l : List D} {d : D} (h : seqOf d = some l) : (isCn d).isSome = cn2 l := by
  have key : ∀ a b : Int, (Option.bind (some (a, b)) fun q : Int × Int => if 1 ≤ q.2 then some q else none).isSome = decide (1 ≤ b) := fun a b => by
    show (if 1 ≤ b then some (a, b) else none).isSome = _
    by_cases h : 1 ≤ b
    · rw [if_pos h, decide_eq_true h]; rfl
    · rw [if_neg h, decide_eq_false h]; rfl
  cases d <;> cases h
  all_goals
    match l with
    | [] => rfl
    | [x] => cases x <;> rfl
    | [x, y] =>
      cases x <;> cases y <;> first | rfl | exact key _ _
    | x :: y :: z :: l => cases x <;> cases y <;> rfl
theorem cn_seq {d : D} {a b : Int} (h : isCn d = some (a, b)) : seqOf d = some [.int a, .int b] ∧ 1 ≤ b := by
  unfold isCn at h
  obtain ⟨⟨a1, b1⟩, h1, h2⟩ := Option.bind_eq_some_iff.mp h
  have h2 : (if 1 ≤ b1 then some (a1, b1) else none) = some (a, b) := h2
  by_cases hb : 1 ≤ b1
  · rw [if_pos hb] at h2
    injection h2 with h2
    injection h2 with h3 h4
    subst h3 h4
    refine ⟨?_, hb⟩
    unfold isPt at h1
    split at h1
    · cases h1; rfl
    · cases h1; rfl
    · cases h1
  · rw [if_neg hb] at h2
    cases h2
def gIsCn : List D → Option Out
  | [d] => if okO d = true then some (.ret (.bl (isCn d).isSome)) else none
  | _ => none
theorem ok_is_coin (T : Tx P K mg A) : CalX P w K mg base 2 "is_coin" (SpS K 1 (spcF gIsCn)) := by
  have c_is_list := @ok_is_list P w K mg base A T
  have c_is_integer := @ok_is_integer P w K mg base A T
  obtain ⟨a, fd, F, m, bi⟩ := T.f_is_coin
  refine ⟨a, fd, _, fnS F sc_is_coin rfl (fun cdv A' outer sh H E hr => ⟨_, (pss_one (ps_ret (pe_and (pe_cx c_is_list hr (by omega) (by rfl) (passes_call (takes_of rfl rfl rfl rfl) (fun _ _ _ _ z => z)) (pa_cons (pv 0) pa_nil)) (pe_and (pe_cmpR (DK.op_eq (K := K) (hr.units)) (pe_callB (DK.len (K := K)) (by rfl) T.z_len (by decide +kernel) (pa_cons (pv 0) pa_nil)) pe_int (nomark _)) (pe_and (pe_cx c_is_integer hr (by omega) (by rfl) (passes_call (takes_of rfl rfl rfl rfl) (fun _ _ _ _ z => z)) (pa_cons (pe_ix (DK.ix (K := K)) (pv 0) pe_int (fun _ _ => rfl)) pa_nil)) (pe_and (pe_cx c_is_integer hr (by omega) (by rfl) (passes_call (takes_of rfl rfl rfl rfl) (fun _ _ _ _ z => z)) (pa_cons (pe_ix (DK.ix (K := K)) (pv 0) pe_int (fun _ _ => rfl)) pa_nil)) (pe_one (pe_cmpR op_geK (pe_ix (DK.ix (K := K)) (pv 0) pe_int (fun _ _ => rfl)) pe_int (nomark _))))))))), fun R k0 ds b hp hl hE => ?_⟩), m, F.kp, bi⟩
  obtain ⟨o, ho⟩ := hp
  obtain ⟨d, rfl⟩ : ∃ d, ds = [d] := by
    match ds, hl with
    | [d], _ => exact ⟨d, rfl⟩
  have ek : okO d = true := by
    by_cases h : okO d = true
    · exact h
    · have e : gIsCn [d] = none := if_neg h
      rw [e] at ho
      cases ho
  have eg : gIsCn [d] = some (.ret (.bl (isCn d).isSome)) := if_pos ek
  have int_at : ∀ {d : D}, (tyN d).isSome = true → gIsInt [d] = some (.ret (.bl (isIntD d))) := fun h => if_pos h
  have two : ∀ l : List D, typed l = true → (∃ x y, l = [x, y] ∧ (tyN x).isSome = true ∧ (tyN y).isSome = true) ∨ (l.length ≠ 2 ∧ cn2 l = false) := fun l t => by
    match l with
    | [] => exact .inr ⟨by decide, rfl⟩
    | [x] => exact .inr ⟨by simp, by cases x <;> rfl⟩
    | [x, y] => exact .inl ⟨x, y, rfl, List.all_eq_true.mp t x (by simp), List.all_eq_true.mp t y (by simp)⟩
    | x :: y :: z :: l => exact .inr ⟨by simp, by cases x <;> cases y <;> rfl⟩
  cases d
  case lst l =>
    obtain ⟨l1, l2⟩ := Bool.and_eq_true_iff.mp ek
    rw [isCn_seq rfl] at eg
    repeat (walk_at "s1")
    refine rc_len (l := l) rfl ?_
    repeat (walk_at "s1")
    rcases two l l2 with ⟨x, y, rfl, tx, ty⟩ | ⟨n2, e⟩
    · refine ⟨fun _ => ?_, fun z => absurd (of_decide_eq_false z) (fun n => n rfl)⟩
      refine we_and (we_callF (X := fun _ _ _ _ => False) xok0 (wl_cons (we_op (we_var rfl (we_int (rd_ix rfl (d := x) atI_0 (wl_nil (co_ret rfl (int_at tx) ?_))))))))
      repeat (walk_at "s1")
      cases hx : isIntD x with
      | false =>
        have e : cn2 [x, y] = false := by cases x <;> first | rfl | cases hx
        rw [e] at eg
        exact ⟨fun z => (nomatch z), fun _ => ⟨eg, rfl⟩⟩
      | true =>
        obtain ⟨i, rfl⟩ : ∃ i, x = .int i := by cases x <;> first | exact ⟨_, rfl⟩ | cases hx
        refine ⟨fun _ => ?_, fun z => (nomatch z)⟩
        refine we_and (we_callF (X := fun _ _ _ _ => False) xok0 (wl_cons (we_op (we_var rfl (we_int (rd_ix rfl (d := y) atI_1 (wl_nil (co_ret rfl (int_at ty) ?_))))))))
        cases hy : isIntD y with
        | false =>
          have e : cn2 [.int i, y] = false := by cases y <;> first | rfl | cases hy
          rw [e] at eg
          exact ⟨false, rfl, fun z => (nomatch z), fun _ => ⟨eg, rfl⟩⟩
        | true =>
          obtain ⟨j, rfl⟩ : ∃ j, y = .int j := by cases y <;> first | exact ⟨_, rfl⟩ | cases hy
          refine ⟨true, rfl, fun _ => ?_, fun z => (nomatch z)⟩
          exact we_op (we_op (we_var rfl (we_int (rd_ix rfl (d := .int j) atI_1 (we_int (rd_ge ⟨eg, rfl⟩))))))
    · rw [e] at eg
      exact ⟨fun z => absurd (of_decide_eq_true z) (by omega), fun _ => ⟨eg, rfl⟩⟩
  case tup l =>
    obtain ⟨l1, l2⟩ := Bool.and_eq_true_iff.mp ek
    rw [isCn_seq rfl] at eg
    repeat (walk_at "s1")
    refine rc_len (l := l) rfl ?_
    repeat (walk_at "s1")
    rcases two l l2 with ⟨x, y, rfl, tx, ty⟩ | ⟨n2, e⟩
    · refine ⟨fun _ => ?_, fun z => absurd (of_decide_eq_false z) (fun n => n rfl)⟩
      refine we_and (we_callF (X := fun _ _ _ _ => False) xok0 (wl_cons (we_op (we_var rfl (we_int (rd_ix rfl (d := x) atI_0 (wl_nil (co_ret rfl (int_at tx) ?_))))))))
      repeat (walk_at "s1")
      cases hx : isIntD x with
      | false =>
        have e : cn2 [x, y] = false := by cases x <;> first | rfl | cases hx
        rw [e] at eg
        exact ⟨fun z => (nomatch z), fun _ => ⟨eg, rfl⟩⟩
      | true =>
        obtain ⟨i, rfl⟩ : ∃ i, x = .int i := by cases x <;> first | exact ⟨_, rfl⟩ | cases hx
        refine ⟨fun _ => ?_, fun z => (nomatch z)⟩
        refine we_and (we_callF (X := fun _ _ _ _ => False) xok0 (wl_cons (we_op (we_var rfl (we_int (rd_ix rfl (d := y) atI_1 (wl_nil (co_ret rfl (int_at ty) ?_))))))))
        cases hy : isIntD y with
        | false =>
          have e : cn2 [.int i, y] = false := by cases y <;> first | rfl | cases hy
          rw [e] at eg
          exact ⟨false, rfl, fun z => (nomatch z), fun _ => ⟨eg, rfl⟩⟩
        | true =>
          obtain ⟨j, rfl⟩ : ∃ j, y = .int j := by cases y <;> first | exact ⟨_, rfl⟩ | cases hy
          refine ⟨true, rfl, fun _ => ?_, fun z => (nomatch z)⟩
          exact we_op (we_op (we_var rfl (we_int (rd_ix rfl (d := .int j) atI_1 (we_int (rd_ge ⟨eg, rfl⟩))))))
    · rw [e] at eg
      exact ⟨fun z => absurd (of_decide_eq_true z) (by omega), fun _ => ⟨eg, rfl⟩⟩
  all_goals first
    | exact absurd ek Bool.false_ne_true
    | (repeat (walk_at "s1")
       exact ⟨eg, rfl⟩)
/-- the first thing that is no coin, or whose number stood before -/
def badC (p : Int) : List Int → List D → Nat → Option Nat
  | _, [], _ => none
  | s, d :: l, i => match isCn d with
    | some q => if q.1 % p ∈ s then some i else badC p (s ++ [q.1 % p]) l (i + 1)
    | none => some i
def badCD (p : Int) (L : D) : D := if (isLst L && !(itemsD L).isEmpty) = true then oddO (badC p [] (itemsD L) 0) else .int 0
def okC (L : D) : Bool := (tyN L).isSome && ((itemsD L).all okO && decide ((itemsD L).length ≤ 1000))
def gBadC : List D → Option Out
  | [.int p, L] => if (isPrm p && okC L) = true then some (.ret (badCD p L)) else none
  | _ => none
theorem badC_step {p : Int} {s : List Int} {l : List D} {i : Nat} {y : D} (h : l[i]? = some y) : badC p s (l.drop i) i = match isCn y with
    | some q => if q.1 % p ∈ s then some i else badC p (s ++ [q.1 % p]) (l.drop (i + 1)) (i + 1)
    | none => some i := by
  have hl : i < l.length := (List.getElem?_eq_some_iff.mp h).1
  rw [List.drop_eq_getElem_cons hl]
  have e : l[i] = y := Option.some.inj (by rw [← List.getElem?_eq_getElem hl]; exact h)
  rw [e]
  rfl
theorem any_iL {l : List Int} {x : Int} : ((l.map D.int).any fun y => eqF y (.int x)) = decide (x ∈ l) := by
  induction l with
  | nil => rfl
  | cons y l ih =>
    rw [List.map_cons, List.any_cons, ih]
    have e : eqF (.int y) (.int x) = decide (y = x) := by
      show PyData.eqv (.int y) (.int x) = _
      simp [PyData.eqv]
      rfl
    rw [e]
    by_cases h : y = x
    · subst h
      simp
    · by_cases h2 : x ∈ l
      · simp [h2]
      · simp [h, h2, Ne.symm h]
theorem flat_iL (l : List Int) : (l.map D.int).all flatD = true := List.all_eq_true.mpr fun d hd => by
  obtain ⟨x, _, rfl⟩ := List.mem_map.mp hd
  rfl
theorem ok_first_bad (T : Tx P K mg A) : CalX P w K mg base 3 "first_bad_coin" (SpS K 2 (spcF gBadC)) := by
  have c_is_list := @ok_is_list P w K mg base A T
  have c_is_coin := @ok_is_coin P w K mg base A T
  obtain ⟨a, fd, F, m, bi⟩ := T.f_first_bad_coin
  refine ⟨a, fd, _, fnS F sc_first_bad_coin rfl (fun cdv A' outer sh H E hr => ⟨_, (pss_cons (ps_if (PW.pt (pw_or (pt_not (pt_val (pe_cx c_is_list hr (by omega) (by rfl) (passes_call (takes_of rfl rfl rfl rfl) (fun _ _ _ _ z => z)) (pa_cons (pv 1) pa_nil)))) (pw_or1 (pt_cmpR (DK.op_eq (K := K) (hr.units)) (pe_callB (DK.len (K := K)) (by rfl) T.z_len (by decide +kernel) (pa_cons (pv 1) pa_nil)) pe_int (nomark _)))))
  (pss_one (ps_ret pe_int))
  pss_nil)
  (pss_cons (ps_asg (pe_lst pa_nil) (pg_name (i := 2) sc_first_bad_coin.nd rfl (by first | exact .inl rfl | exact .inr rfl)))
  (pss_cons (ps_for (passes_of rfl) rfl (DK.pi_enum2 (K := K) (by rfl) T.z_enumerate (pa_cons (pv 1) pa_nil)) (DK.pg_tup (K := K) rfl (pgs_cons (pg_name (i := 3) sc_first_bad_coin.nd rfl (by first | exact .inl rfl | exact .inr rfl)) (pgs_cons (pg_name (i := 4) sc_first_bad_coin.nd rfl (by first | exact .inl rfl | exact .inr rfl)) pgs_nil)))
  (pss_cons (ps_if (PW.pt (pw_or (pt_not (pt_val (pe_cx c_is_coin hr (by omega) (by rfl) (passes_call (takes_of rfl rfl rfl rfl) (fun _ _ _ _ z => z)) (pa_cons (pv 4) pa_nil)))) (pw_or1 (pt_cmpR (DK.op_in (K := K)) (pe_op op_modK (pe_ix (DK.ix (K := K)) (pv 4) pe_int (fun _ _ => rfl)) (pv 0)) (pv 2) (by rfl)))))
  (pss_one (ps_ret (pv 3)))
  pss_nil)
  (pss_one (ps_expr (pe_bm PySem.F.plainAttrs_list PySem.F.slot_list_append PySem.F.type_list_append mt_append (pv 2) (pa_cons (pe_op op_modK (pe_ix (DK.ix (K := K)) (pv 4) pe_int (fun _ _ => rfl)) (pv 0)) pa_nil))))))
  (pss_one (ps_ret pe_non))))), fun R k0 ds b hp hl hE => ?_⟩), m, F.kp, bi⟩
  obtain ⟨o, ho⟩ := hp
  obtain ⟨p, L, rfl⟩ : ∃ p L, ds = [.int p, L] := by
    unfold gBadC at ho
    split at ho
    · exact ⟨_, _, rfl⟩
    · cases ho
  have kk : (isPrm p && okC L) = true := by
    by_cases h : (isPrm p && okC L) = true
    · exact h
    · have e : gBadC [.int p, L] = none := if_neg h
      rw [e] at ho
      cases ho
  have eg : gBadC [.int p, L] = some (.ret (badCD p L)) := if_pos kk
  obtain ⟨h1, kL⟩ := Bool.and_eq_true_iff.mp kk
  obtain ⟨p1, p2⟩ := prm_le h1
  obtain ⟨kt, kL⟩ := Bool.and_eq_true_iff.mp kL
  obtain ⟨ki, kl⟩ := Bool.and_eq_true_iff.mp kL
  have kl := of_decide_eq_true kl
  unfold badCD at eg
  refine ws_seq (ws_if (wt_or (wt_not (wt_B ?_))))
  refine we_callFl (X := fun _ _ _ _ => False) xok0 (wl_cons (we_var rfl (wl_nil (co_ret rfl (gIsList_eq kt) ?_))))
  cases hL : isLst L with
  | false =>
    rw [hL] at eg
    repeat (walk_at "s1")
    exact ⟨eg, rfl⟩
  | true =>
    rw [hL] at eg
    obtain ⟨l, sq, el⟩ : ∃ l, seqOf L = some l ∧ itemsD L = l := by cases L <;> first | exact ⟨_, rfl, rfl⟩ | cases hL
    rw [el] at eg ki kl
    refine ⟨true, rfl, ?_⟩
    refine brF3 rfl ?_
    refine wt_test (we_op (we_cb (wl_cons (we_var rfl (wl_nil (rc_len sq ?_))))))
    refine we_int (rd_eq_int ?_)
    refine ⟨_, rfl, fun hz => ?_, fun hz => ?_⟩
    · have hz : l = [] := List.length_eq_zero_iff.mp (by have := of_decide_eq_true hz; omega)
      subst hz
      refine ws_ret (we_int ⟨eg, rfl⟩)
    have hz := of_decide_eq_false hz
    have hne : (true && !l.isEmpty) = true := by
      cases l with
      | nil => exact absurd rfl hz
      | cons x l => rfl
    rw [if_pos hne] at eg
    refine ws_next ?_
    refine ws_seq (ws_asg (we_lstM (wl_nil (szB rfl fun q nq => ?_))))
    refine wg_nm (by rfl) ?_
    dsimp only [List.set]
    have items : ∀ {i : Nat} {y : D}, l[i]? = some y → okO y = true := fun h => List.all_eq_true.mp ki _ (List.mem_of_getElem? h)
    have hel : L = .lst l ∨ L = .tup l := by
      cases L <;> first | (cases hL; done) | (exact .inl (by rw [← el]; rfl)) | (exact .inr (by rw [← el]; rfl))
    rcases hel with rfl | rfl
    all_goals
      refine ws_seq (ws_for ?_)
      first | (refine wi_enumL (wl_cons (we_var rfl (wl_nil ⟨l, rfl, ?_⟩)))) | (refine wi_enumT (wl_cons (we_var rfl (wl_nil ⟨l, rfl, ?_⟩))))
      refine ⟨fun i ς => ∃ x3 x4 s, ς = { δ := [some (.int p), some _, some (.ref q), x3, x4], m := [(q, .lst (s.map D.int))], b := b } ∧ s.length ≤ i ∧ badC p s (l.drop i) i = badC p [] l 0, ⟨none, none, [], rfl, Nat.le_refl 0, rfl⟩, ?_, ?_⟩
      · rintro i d ς hi ⟨x3, x4, s, rfl, sl, eo⟩
        obtain ⟨y, hy, rfl⟩ := enumD_get hi
        have il := (List.getElem?_eq_some_iff.mp hy).1
        have oy := items hy
        rw [badC_step hy] at eo
        refine wg_tup rfl ?_
        repeat (walk_at "s1")
        refine co_ret rfl (show gIsCn [y] = some (.ret (.bl (isCn y).isSome)) from if_pos oy) ?_
        cases hp : isCn y with
        | none =>
          rw [hp] at eo
          rw [← eo] at eg
          repeat (walk_at "s1")
          exact ⟨eg, rfl⟩
        | some ab =>
          obtain ⟨a, c⟩ := ab
          rw [hp] at eo
          dsimp only at eo
          obtain ⟨sq2, _⟩ := cn_seq hp
          refine ⟨true, rfl, ?_⟩
          refine brF3 rfl ?_
          refine wt_test (we_inM (j := 0) (o := q) (ds := s.map D.int) (we_op (we_op (we_var rfl (we_int (rd_ix sq2 (d := .int a) atI_0 (we_var rfl (rd_mod (by omega) (we_var rfl ⟨rfl, rfl, rfl, flat_iL _, ?_⟩)))))))))
          rw [any_iL]
          by_cases hm : a % p ∈ s
          · rw [if_pos hm] at eo
            rw [← eo] at eg
            rw [decide_eq_true hm]
            repeat (walk_at "s1")
            exact ⟨eg, rfl⟩
          · rw [if_neg hm] at eo
            rw [decide_eq_false hm]
            refine ⟨false, rfl, ?_⟩
            refine brF ?_
            refine ws_next ?_
            refine ws_append (j := 0) (o := q) (ds := s.map D.int) (fun _ _ _ z => (nomatch z)) ?_
            refine we_var rfl ⟨rfl, ⟨_, rfl⟩, we_op (we_op (we_var rfl (we_int (rd_ix sq2 (d := .int a) atI_0 (we_var rfl (rd_mod (by omega) ⟨rfl, lt_size (by rw [List.length_map]; omega), ?_⟩))))))⟩
            dsimp only [List.set]
            have em : s.map D.int ++ [D.int (a % p)] = (s ++ [a % p]).map D.int := by
              rw [List.map_append]
              rfl
            rw [em]
            exact ⟨_, _, _, rfl, by rw [List.length_append]; show s.length + 1 ≤ _; omega, eo⟩
      · rintro ς ⟨x3, x4, s, rfl, sl, eo⟩
        have ez : l.drop (enumD l).length = [] := by
          unfold enumD
          rw [List.length_mapIdx]
          exact List.drop_length
        rw [ez] at eo
        rw [← eo] at eg
        dsimp only
        refine ws_ret (we_non ?_)
        exact ⟨eg, rfl⟩
def gChkC (A : Ad) : List D → Option Out
  | [.int p, L] => if (isPrm p && okC L) = true then some (match badCD p L with | .int i => .exc A.BadCoin ["index"] [.int i] | _ => .ret .non) else none
  | _ => none
theorem badCD_cases (p : Int) (L : D) : badCD p L = .non ∨ ∃ i : Nat, badCD p L = .int (i : Int) := by
  unfold badCD
  by_cases h : (isLst L && !(itemsD L).isEmpty) = true
  · rw [if_pos h]
    cases badC p [] (itemsD L) 0 with
    | none => exact .inl rfl
    | some i => exact .inr ⟨i, rfl⟩
  · rw [if_neg h]
    exact .inr ⟨0, rfl⟩
theorem ok_check_coins (T : Tx P K mg A) : CalX P w K mg base 4 "check_coins" (SpS K 2 (spcF (gChkC A))) := by
  have c_first_bad_coin := @ok_first_bad P w K mg base A T
  obtain ⟨a, fd, F, m, bi⟩ := T.f_check_coins
  refine ⟨a, fd, _, fnS F sc_check_coins rfl (fun cdv A' outer sh H E hr => ⟨_, (pss_cons (ps_asg (pe_cx c_first_bad_coin hr (by omega) (by rfl) (passes_call (takes_of rfl rfl rfl rfl) (fun _ _ _ _ z => z)) (pa_cons (pv 0) (pa_cons (pv 1) pa_nil))) (pg_name (i := 2) sc_check_coins.nd rfl (by first | exact .inl rfl | exact .inr rfl)))
  (pss_one (ps_if (pt_cmpR op_isnotK (pv 2) pe_non (nomark _))
  (pss_one (DX.ps_rs (takes_of rfl rfl rfl rfl) T.x_BadCoin (by decide) (by decide) hr (pa_cons (pv 2) pa_nil)))
  pss_nil))), fun R k0 ds b hp hl hE => ?_⟩), m, F.kp, bi⟩
  obtain ⟨o, ho⟩ := hp
  obtain ⟨p, L, rfl⟩ : ∃ p L, ds = [.int p, L] := by
    unfold gChkC at ho
    split at ho
    · exact ⟨_, _, rfl⟩
    · cases ho
  have kk : (isPrm p && okC L) = true := by
    by_cases h : (isPrm p && okC L) = true
    · exact h
    · have e : gChkC A [.int p, L] = none := if_neg h
      rw [e] at ho
      cases ho
  have eg : gChkC A [.int p, L] = some (match badCD p L with | .int i => .exc A.BadCoin ["index"] [.int i] | _ => .ret .non) := if_pos kk
  have e1 : gBadC [.int p, L] = some (.ret (badCD p L)) := if_pos kk
  have hx := xok_def hE
  have hX := xokW hx
  refine ws_seq (ws_asg (we_callF (X := fun _ _ _ _ => False) xok0 (wl_cons (we_var rfl (wl_cons (we_var rfl (wl_nil (co_ret rfl e1 ?_))))))))
  refine wg_nm (by rfl) ?_
  dsimp only [List.set]
  rcases badCD_cases p L with e | ⟨i, e⟩
  · rw [e] at eg ⊢
    repeat (walk_at "s1")
    exact ⟨eg, rfl⟩
  · rw [e] at eg ⊢
    repeat (walk_at "s1")
    exact ⟨rfl, eg, rfl⟩
def gNum (A : Ad) : List D → Option Out
  | [d] => if (tyN d).isSome then some (match d with | .int _ => .ret .non | _ => .exc A.BadNumber ["number"] [d]) else none
  | _ => none
theorem ok_check_number (T : Tx P K mg A) : CalX P w K mg base 2 "check_number" (SpS K 1 (spcF (gNum A))) := by
  have c_is_integer := @ok_is_integer P w K mg base A T
  obtain ⟨a, fd, F, m, bi⟩ := T.f_check_number
  refine ⟨a, fd, _, fnS F sc_check_number rfl (fun cdv A' outer sh H E hr => ⟨_, (pss_one (ps_if (pt_not (pt_val (pe_cx c_is_integer hr (by omega) (by rfl) (passes_call (takes_of rfl rfl rfl rfl) (fun _ _ _ _ z => z)) (pa_cons (pv 0) pa_nil))))
  (pss_one (DX.ps_rs (takes_of rfl rfl rfl rfl) T.x_BadNumber (by decide) (by decide) hr (pa_cons (pv 0) pa_nil)))
  pss_nil)), fun R k0 ds b hp hl hE => ?_⟩), m, F.kp, bi⟩
  obtain ⟨o, ho⟩ := hp
  obtain ⟨d, rfl⟩ : ∃ d, ds = [d] := by
    match ds, hl with
    | [d], _ => exact ⟨d, rfl⟩
  have hx := xok_def hE
  have hX := xokW hx
  have bad : ∀ {C : Addr} {ns : List Str} {fs : List D}, gNum A [d] = some (.exc C ns fs) → (spcF (gNum A)).exc R [d] b C ns fs b := fun e => ⟨e, rfl⟩
  cases d <;> cases ho
  case int p =>
    repeat (walk_at "s1")
    exact ⟨rfl, rfl⟩
  all_goals
    repeat (walk_at "s1")
    exact ⟨rfl, bad rfl⟩
end
end K54

set_option Elab.async false
set_option linter.all false
set_option maxRecDepth 100000
set_option maxHeartbeats 4000000
namespace K54
open PySem PySem.Spec PyProof.Rows L2 DL
section
variable {P : Program} {w : World} {K : PySem.W.Frag} {mg : Str → Option Value} {base : Heap} {A : Ad}
local macro_rules | `(tactic| walk_at "s0") => `(tactic| with_reducible first
  | refine ws_seq ?_ | refine ws_next ?_ | refine ws_ret ?_ | refine ws_retN ?_ | refine ws_if ?_ | refine ws_asg ?_ | refine ws_drop ?_ | refine ws_par ?_ | refine ws_break ?_ | refine ws_cont ?_
  | refine we_var rfl ?_ | refine we_int ?_ | refine we_non ?_ | refine we_bl ?_ | refine we_str ?_ | refine we_ty ?_ | refine we_dnew ?_ | refine we_op ?_ | refine we_un ?_
  | refine we_and ?_ | refine we_or ?_ | refine we_not ?_ | refine we_if ?_ | refine we_chain ?_ | refine we_cb ?_ | refine we_tup ?_ | refine we_lst ?_
  | refine wl_cons ?_ | refine wl_nil ?_ | refine wt_B ?_ | refine wt_test ?_ | refine wt_and ?_ | refine wt_or ?_ | refine wt_not ?_ | refine wt_yes ?_
  | refine wi_tup ?_ | refine wi_list ?_ | refine wg_tup rfl ?_ | refine wgs_cons ?_ | refine wgs_nil ?_
  | refine rd_add_int ?_ | refine rd_sub ?_ | refine rd_lt ?_ | refine rd_le ?_ | refine rd_gt ?_ | refine rd_ge ?_ | refine rd_eq_int ?_ | refine rd_ne_int ?_ | refine rd_eq_str ?_ | refine rd_ne_str ?_ | refine rd_eq_bl ?_ | refine rd_ne_bl ?_ | refine rd_is ?_ | refine rd_is_bl ?_ | refine rd_isnot ?_ | refine ru_neg ?_
  | refine rc_int ?_ | refine rc_abs ?_ | refine rc_anyF ?_ | refine rc_allF ?_
  | refine brT ?_ | refine brF ?_ | refine brT' ?_ | refine brF' ?_
  | refine ⟨_, rfl, ?_⟩)
set_option hygiene false in
local macro_rules | `(tactic| walk_at "s1") => `(tactic| first
  | refine we_isiLT ?_ | refine we_isiILT ?_ | refine wi_seqV (by rfl) (by rfl) ?_ | walk_at "s0" | refine ⟨true, by rfl, ?_⟩ | refine ⟨false, by rfl, ?_⟩ | refine we_ref ?_ | refine we_fld1 ?_ | refine ⟨_, _, _, _, rfl, T.n_Gates_prime, by rfl, ?_⟩ | refine ⟨_, _, _, _, rfl, T.n_Gates_rows, by rfl, ?_⟩ | refine ⟨_, _, _, _, rfl, T.n_Gates_worths, by rfl, ?_⟩ | refine ⟨_, _, _, _, rfl, T.n_Poly_prime, by rfl, ?_⟩ | refine ⟨_, _, _, _, rfl, T.n_Poly_row, by rfl, ?_⟩ | refine ⟨_, _, _, _, rfl, T.n_Layers_net, by rfl, ?_⟩ | refine ⟨_, _, _, _, rfl, T.n_Layers_prime, by rfl, ?_⟩ | refine ⟨_, _, _, _, rfl, T.n_Layers_begin, by rfl, ?_⟩ | refine ⟨_, _, _, _, rfl, T.n_Layers_lot, by rfl, ?_⟩ | refine ⟨_, _, _, _, rfl, T.n_Layers_sizes, by rfl, ?_⟩ | refine rc_isiB (r := true) (by rfl) ?_ | refine rc_isiO T.k_Gates ?_ | refine rc_isiN T.k_Gates (by rfl) ?_ | refine rc_isiO T.k_Poly ?_ | refine rc_isiN T.k_Poly (by rfl) ?_ | refine rc_isiO T.k_Layers ?_ | refine rc_isiN T.k_Layers (by rfl) ?_ | refine we_callF (by assumption) ?_ | refine we_callF (X := fun _ _ _ _ => False) xok0 ?_ | refine we_callFl (by assumption) ?_ | refine we_callFl (X := fun _ _ _ _ => False) xok0 ?_ | refine we_makeFl (by assumption) ?_ | refine we_makeFl (X := fun _ _ _ _ => False) xok0 ?_ | refine we_makeF (by assumption) ?_ | refine we_makeF (X := fun _ _ _ _ => False) xok0 ?_ | refine DX.ws_rs (by assumption) ?_ | refine wt_test ?_ | refine co_ret rfl (by rfl) ?_ | refine wg_nm (by rfl) ?_ | refine parB (by rfl) (by rfl) ?_ | refine szB (by rfl) ?_ | refine szL (by rfl) ?_ | refine brT2 (by rfl) ?_ | refine brF2 (by rfl) ?_ | refine brT3 (by rfl) ?_ | refine brF3 (by rfl) ?_ | refine rc_isiB (r := false) (by rfl) ?_)
/-! a talk about layers, made -/
open Classical in
noncomputable def gOfI {α : Type} (ar : α → List D) (ok : α → Prop) (res : α → OutI) (ds : List D) : Option OutI := if h : ∃ x, ar x = ds ∧ ok x then some (res (Classical.choose h)) else none
open Classical in
theorem gOfI_eq {α : Type} {ar : α → List D} {ok : α → Prop} {res : α → OutI} (inj : ∀ x y, ar x = ar y → x = y) {x : α} (h : ok x) : gOfI ar ok res (ar x) = some (res x) := by
  have e : ∃ y, ar y = ar x ∧ ok y := ⟨x, rfl, h⟩
  unfold gOfI
  rw [dif_pos e, inj _ _ (Classical.choose_spec e).1]
open Classical in
theorem gOfI_inv {α : Type} {ar : α → List D} {ok : α → Prop} {res : α → OutI} {ds : List D} {o : OutI} (h : gOfI ar ok res ds = some o) : ∃ x, ds = ar x ∧ ok x ∧ o = res x := by
  unfold gOfI at h
  by_cases e : ∃ x, ar x = ds ∧ ok x
  · rw [dif_pos e] at h
    have z := Classical.choose_spec e
    exact ⟨_, z.1.symm, z.2, (Option.some.inj h).symm⟩
  · rw [dif_neg e] at h
    cases h
structure netG (x : Net) : Prop where
  pr : isPrm x.1 = true
  ok : netOk x.2.1 x.2.2
def bitAt (x : Net) (k : Nat) : Int := bitsN (x.2.2.getD k []).length
theorem bits_le {n : Nat} (h : lenOk n = true) : bitsN n = 0 ∨ bitsN n = 1 ∨ bitsN n = 2 := by
  have : n = 1 ∨ n = 2 ∨ n = 4 := by
    unfold lenOk at h
    simp [bitsT] at h
    omega
  rcases this with rfl | rfl | rfl
  · exact .inl rfl
  · exact .inr (.inl rfl)
  · exact .inr (.inr rfl)
theorem bitAt_le {x : Net} (h : netOk x.2.1 x.2.2) {k : Nat} (hk : k ≤ x.2.1.length) : 0 ≤ bitAt x k ∧ bitAt x k ≤ 2 := by
  have := bits_le (h.all _ (at_row (i := k) (by rw [h.len]; omega)).2)
  unfold bitAt
  omega
theorem gBits_at {A : Ad} {x : Net} (h : netOk x.2.1 x.2.2) {k : Nat} (hk : k ≤ x.2.1.length) : gBits A [nD A x, .int (k : Int)] = some (.ret (.int (bitAt x k))) := by
  have hl : layN x.2.1.length (.int (k : Int)) = true := by
    show (decide ((0 : Int) ≤ (k : Int)) && decide ((k : Int) ≤ (x.2.1.length : Int))) = true
    rw [decide_eq_true (by omega), decide_eq_true (by omega)]
    rfl
  rw [gBits_eq (A := A) (x := x) (d := .int (k : Int)) rfl h, if_pos hl]
  rfl
def szOf (x : Net) : List Int := (List.range x.2.1.length).map fun k => 2 * bitAt x (k + 1) + 1
theorem szOf_len (x : Net) : (szOf x).length = x.2.1.length := by unfold szOf; rw [List.length_map, List.length_range]
def cnD (p : Int) (d : D) : D := match isCn d with
  | some (a, w) => .tup [.int (a % p), .int w]
  | none => .non
abbrev layD (A : Ad) (x : Net) (bg : List Int) (lot : List D) : D := .obj A.Layers ["net", "prime", "begin", "lot", "sizes"] [nD A x, .int x.1, .tup (bg.map D.int), .lst lot, iL (szOf x)]
def gLayB (A : Ad) (x : Net) (pl co : D) : OutI := if plcBad (bitAt x 0) pl = true then .exc A.BadPlace ["thing"] [pl] else match badCD x.1 co with
  | .int i => .exc A.BadCoin ["index"] [.int i]
  | _ => .ok ["net", "prime", "begin", "lot", "sizes"] [nD A x, .int x.1, .tup (((intsD pl).map fun y => y % x.1).map D.int), .lst ((itemsD co).map (cnD x.1)), iL (szOf x)]
def nLst : D → Bool
  | .lst _ => false
  | _ => true
noncomputable def gLay (A : Ad) : List D → Option OutI := gOfI (fun x : Net × D × D => [nD A x.1, x.2.1, x.2.2]) (fun x => netG x.1 ∧ okO x.2.1 = true ∧ (plcBad (bitAt x.1 0) x.2.1 = true ∨ (okC x.2.2 = true ∧ (itemsD x.2.2).all nLst = true))) fun x => gLayB A x.1 x.2.1 x.2.2
theorem gLay_eq {A : Ad} {x : Net} {pl co : D} (h1 : netG x) (h2 : okO pl = true) (h3 : plcBad (bitAt x 0) pl = true ∨ (okC co = true ∧ (itemsD co).all nLst = true)) : gLay A [nD A x, pl, co] = some (gLayB A x pl co) :=
  gOfI_eq (ar := fun x : Net × D × D => [nD A x.1, x.2.1, x.2.2]) (x := (x, pl, co)) (fun x y e => by
    injection e with e1 e
    injection e with e2 e
    injection e with e3 _
    exact Prod.ext (nD_inj e1) (Prod.ext e2 e3)) ⟨h1, h2, h3⟩
theorem badC_none {p : Int} : ∀ {l : List D} {s : List Int} {i : Nat}, badC p s l i = none → ∀ d ∈ l, ∃ a w, isCn d = some (a, w)
  | [], _, _, _, d, hd => absurd hd (by simp)
  | e :: l, s, i, h, d, hd => by
    have h : (match isCn e with
      | some q => if q.1 % p ∈ s then some i else badC p (s ++ [q.1 % p]) l (i + 1)
      | none => some i) = none := h
    cases q : isCn e with
    | none => rw [q] at h; cases h
    | some ab =>
      obtain ⟨a, w⟩ := ab
      rw [q] at h
      dsimp only at h
      by_cases hm : a % p ∈ s
      · rw [if_pos hm] at h; cases h
      · rw [if_neg hm] at h
        rcases List.mem_cons.mp hd with rfl | hd
        · exact ⟨a, w, q⟩
        · exact badC_none h d hd
theorem badCD_none {p : Int} {L : D} (h : badCD p L = .non) : ∃ l, seqOf L = some l ∧ itemsD L = l ∧ ∀ d ∈ l, ∃ a w, isCn d = some (a, w) := by
  unfold badCD at h
  by_cases hl : (isLst L && !(itemsD L).isEmpty) = true
  · rw [if_pos hl] at h
    obtain ⟨h1, _⟩ := Bool.and_eq_true_iff.mp hl
    have hb : badC p [] (itemsD L) 0 = none := by
      cases q : badC p [] (itemsD L) 0 with
      | none => rfl
      | some i => rw [q] at h; cases h
    cases L <;> first | exact ⟨_, rfl, rfl, badC_none hb⟩ | cases h1
  · rw [if_neg hl] at h
    cases h
theorem gChkC_eq {A : Ad} {p : Int} {L : D} (h : isPrm p = true) (h2 : okC L = true) : gChkC A [.int p, L] = some (match badCD p L with | .int i => .exc A.BadCoin ["index"] [.int i] | _ => .ret .non) := if_pos (by rw [h, h2]; rfl)
theorem ok_Layers (T : Tx P K mg A) : MakX P w K mg base 5 "Layers" A.Layers (SpI K 4 A.Layers (spcI (gLay A))) := by
  have c_first_odd := @ok_first_odd P w K mg base A T
  have c_Gates_bits := @ok_bits P w K mg base A T
  have c_Gates___len__ := @ok_len P w K mg base A T
  have c_check_coins := @ok_check_coins P w K mg base A T
  obtain ⟨f, fd, M, F, bi⟩ := T.i_Layers
  refine ⟨f, fd, _, M, fnI F sc_Layers___init__ rfl (fun cdv A' outer sh H E hr => ⟨_, (pss_cons (ps_if (PW.pt (pw_or (pt_cmpR op_isnotK (pe_cx c_first_odd hr (by omega) (by rfl) (passes_call (takes_of rfl rfl rfl rfl) (fun _ _ _ _ z => z)) (pa_cons (pv 2) pa_nil)) pe_non (nomark _)) (pw_or1 (pt_cmpR (DK.op_ne (K := K) (hr.units)) (pe_callB (DK.len (K := K)) (by rfl) T.z_len (by decide +kernel) (pa_cons (pv 2) pa_nil)) (pe_mtx (pv 1) c_Gates_bits hr (by omega) (passes_call (takes_of rfl rfl rfl rfl) (fun _ _ _ _ z => z)) (pa_cons pe_int pa_nil)) (nomark _)))))
  (pss_one (DX.ps_rs (takes_of rfl rfl rfl rfl) T.x_BadPlace (by decide) (by decide) hr (pa_cons (pv 2) pa_nil)))
  pss_nil)
  (pss_cons (ps_expr (pe_cx c_check_coins hr (by omega) (by rfl) (passes_call (takes_of rfl rfl rfl rfl) (fun _ _ _ _ z => z)) (pa_cons (DK.pe_fld (K := K) (pv 1)) (pa_cons (pv 3) pa_nil))))
  (pss_cons (ps_fld (pv 0) (pv 1) rfl)
  (pss_cons (ps_fld (pv 0) (DK.pe_fld (K := K) (pv 1)) rfl)
  (pss_cons (ps_fld (pv 0) (pe_callTy (DK.tup (K := K)) (by rfl) T.z_tuple (by decide +kernel) (pa_cons (pe_lc (own := [("number", 5)]) (g := (gName 5)) (tt := tYes) rfl sc_Layers___init__.nd (DK.pi_seq (K := K) (pv 2)) (blkOk_by (own := [("number", 5)]) (N := n_Layers___init__) (sc := (defScope s_Layers___init__)) (by first | decide +kernel | kernel_rfl)) (fun _ _ _ _ _ => (pg_name (i := 5) sc_Layers___init__.nd rfl (by first | exact .inl rfl | exact .inr rfl))) (fun _ _ _ _ _ => pts_nil) (fun _ _ _ _ _ => (pe_op op_modK (pv 5) (DK.pe_fld (K := K) (pv 1))))) pa_nil)) rfl)
  (pss_cons (ps_fld (pv 0) (pe_lc (own := [("number", 5), ("weight", 6)]) (g := (gTup K 2 (gCons (gName 5) (gCons (gName 6) gNil)))) (tt := tYes) rfl sc_Layers___init__.nd (DK.pi_seq (K := K) (pv 3)) (blkOk_by (own := [("number", 5), ("weight", 6)]) (N := n_Layers___init__) (sc := (defScope s_Layers___init__)) (by first | decide +kernel | kernel_rfl)) (fun _ _ _ _ _ => (DK.pg_tup (K := K) rfl (pgs_cons (pg_name (i := 5) sc_Layers___init__.nd rfl (by first | exact .inl rfl | exact .inr rfl)) (pgs_cons (pg_name (i := 6) sc_Layers___init__.nd rfl (by first | exact .inl rfl | exact .inr rfl)) pgs_nil)))) (fun _ _ _ _ _ => pts_nil) (fun _ _ _ _ _ => (pe_tup (pa_cons (pe_op op_modK (pv 5) (DK.pe_fld (K := K) (pv 1))) (pa_cons (pv 6) pa_nil))))) rfl)
  (pss_one (ps_fld (pv 0) (pe_lc (own := [("layer", 4)]) (g := (gName 4)) (tt := tYes) rfl sc_Layers___init__.nd (pi_range1 (by rfl) T.z_range (pa_cons (pe_callB (DK.lenI c_Gates___len__ hr (by omega) (passes_call (takes_of rfl rfl rfl rfl) (fun _ _ _ _ z => z))) (by rfl) T.z_len (by decide +kernel) (pa_cons (pv 1) pa_nil)) pa_nil)) (blkOk_by (own := [("layer", 4)]) (N := n_Layers___init__) (sc := (defScope s_Layers___init__)) (by first | decide +kernel | kernel_rfl)) (fun _ _ _ _ _ => (pg_name (i := 4) sc_Layers___init__.nd rfl (by first | exact .inl rfl | exact .inr rfl))) (fun _ _ _ _ _ => pts_nil) (fun _ _ _ _ _ => (pe_op (DK.op_add (K := K)) (pe_op op_mulK pe_int (pe_mtx (pv 1) c_Gates_bits hr (by omega) passL (pa_cons (pe_op (DK.op_add (K := K)) (pv 4) pe_int) pa_nil))) pe_int))) rfl)))))))), fun o dx k0 ds hp hl hE => ?_⟩), T.m_Layers, bi⟩
  obtain ⟨oo, ho⟩ := hp
  obtain ⟨⟨x, pl, co⟩, rfl, ⟨hg, kp, kc⟩, rfl⟩ := gOfI_inv ho
  have hx := xok_init hE
  have hX := xokW hx
  dsimp only at hg kp kc ho hl ⊢
  have hn := hg.ok
  obtain ⟨p1, p2⟩ := prm_le hg.pr
  have gb0 := gBits_at (A := A) hn (Nat.zero_le _)
  obtain ⟨b0, b1⟩ := bitAt_le hn (Nat.zero_le _)
  refine ws_cut (fun ς => ∃ x4 x5 x6, ς = { δ := [some (.ref o), some (nD A x), some pl, some co, x4, x5, x6], m := [(o, .ins A.Layers dx [] [])] } ∧ plcBad (bitAt x 0) pl = false) ?_ ?_
  · refine ws_if (wt_or (wt_test (we_op (we_callFl (X := fun _ _ _ _ => False) xok0 (wl_cons (we_var rfl (wl_nil (co_ret rfl (show gOdd [pl] = some (.ret (oddD pl)) from if_pos kp) ?_))))))))
    refine we_non (rd_isnot ?_)
    have bad : plcBad (bitAt x 0) pl = true → gLay A [nD A x, pl, co] = some (.exc A.BadPlace ["thing"] [pl]) := fun e => by
      rw [ho]
      unfold gLayB
      rw [if_pos e]
    cases hz : isNon (oddD pl) with
    | false =>
      have e := bad (by unfold plcBad; rw [hz]; rfl)
      repeat (walk_at "s1")
      exact ⟨rfl, e⟩
    | true =>
      obtain ⟨xs, lx, es, ei, _⟩ := ints_I kp hz
      have sq : seqOf pl = some (xs.map D.int) := by rcases es with rfl | rfl <;> rfl
      refine ⟨false, rfl, ?_⟩
      refine ⟨fun _ => ?_, fun z => (nomatch z)⟩
      refine wt_test (we_op (we_cb (wl_cons (we_var rfl (wl_nil (rc_len sq ?_))))))
      refine we_methF (X := fun _ _ _ _ => False) xok0 (we_var rfl ⟨_, _, rfl, by decide, wl_cons (we_int (wl_nil (co_ret rfl gb0 ?_)))⟩)
      refine rd_ne_int ⟨_, rfl, ?_⟩
      have e : plcBad (bitAt x 0) pl = !decide (((xs.map D.int).length : Int) = bitAt x 0) := by
        unfold plcBad
        rw [hz, ei]
        rfl
      rw [← e]
      cases hq : plcBad (bitAt x 0) pl with
      | true =>
        have e := bad hq
        repeat (walk_at "s1")
        exact ⟨rfl, e⟩
      | false =>
        repeat (walk_at "s1")
        exact ⟨_, _, _, rfl, rfl⟩
  rintro ς ⟨x4, x5, x6, rfl, hq⟩
  obtain ⟨kc, kt⟩ : okC co = true ∧ (itemsD co).all nLst = true := by
    rcases kc with h | h
    · rw [hq] at h; cases h
    · exact h
  have hz : isNon (oddD pl) = true := by
    cases hz : isNon (oddD pl) with
    | true => rfl
    | false => unfold plcBad at hq; rw [hz] at hq; cases hq
  obtain ⟨xs, lx, es, ei, ej⟩ := ints_I kp hz
  have gc := gChkC_eq (A := A) hg.pr kc
  unfold gLayB at ho
  rw [if_neg (by rw [hq]; exact Bool.false_ne_true)] at ho
  refine ws_seq (ws_drop (we_callF hx ?_))
  repeat (walk_at "s1")
  rcases badCD_cases x.1 co with e | ⟨i, e⟩
  rotate_left
  · rw [e] at gc ho
    exact co_exc rfl gc ho
  rw [e] at gc ho
  dsimp only at ho
  obtain ⟨l, sl, el, hc⟩ := badCD_none e
  rw [ej, el] at ho
  refine co_ret rfl gc ?_
  refine ws_seq (ws_fld (j := 0) (o := o) (C := A.Layers) (dx := dx) (ns := []) (ds := []) (fun _ _ _ _ z => z) ?_)
  refine we_var rfl (we_var rfl ⟨rfl, rfl, T.n_Layers_net.1, T.n_Layers_net.2, by decide, ?_⟩)
  refine ws_seq (ws_fld (j := 0) (o := o) (C := A.Layers) (dx := dx) (ns := ["net"]) (ds := [nD A x]) (fun _ _ _ _ z => z) ?_)
  refine we_fld1 (we_var rfl ⟨_, _, _, _, rfl, T.n_Gates_prime, rfl, ?_⟩)
  refine we_var rfl ⟨rfl, rfl, T.n_Layers_prime.1, T.n_Layers_prime.2, by decide, ?_⟩
  refine ws_seq (ws_fld (j := 0) (o := o) (C := A.Layers) (dx := dx) (ns := ["net", "prime"]) (ds := [nD A x, .int x.1]) (fun _ _ _ _ z => z) ?_)
  have sq : seqOf pl = some (xs.map D.int) := by rcases es with rfl | rfl <;> rfl
  refine we_cb (wl_cons (we_lcM (kg_name (by decide)) (wi_seqV (by rfl) sq ?_)))
  refine ⟨fun d => .int (dI d % x.1), lt_size (by rw [List.length_map]; omega), fun d hd oo acc => ?_, ?_⟩
  · obtain ⟨y, _, rfl⟩ := List.mem_map.mp hd
    refine wg_nm (by rfl) ?_
    repeat (walk_at "s1")
    refine rd_mod (by omega) ?_
    exact ⟨rfl, rfl, rfl⟩
  have einp : (xs.map D.int).map (fun d => D.int (dI d % x.1)) = (xs.map fun y => y % x.1).map D.int := by
    rw [List.map_map, List.map_map]
    rfl
  rw [einp]
  refine wl_nil (rc_tup rfl ?_)
  refine we_var rfl ⟨rfl, rfl, T.n_Layers_begin.1, T.n_Layers_begin.2, by decide, ?_⟩
  generalize (xs.map fun y => y % x.1) = bg at ho
  refine ws_seq (ws_fld (j := 0) (o := o) (C := A.Layers) (dx := dx) (ns := ["net", "prime", "begin"]) (ds := [nD A x, .int x.1, .tup (bg.map D.int)]) (fun _ _ _ _ z => z) ?_)
  rw [el] at kt
  have ll : l.length ≤ 1000 := by
    have := of_decide_eq_true (Bool.and_eq_true_iff.mp (Bool.and_eq_true_iff.mp kc).2).2
    rw [el] at this
    exact this
  refine we_lcM (kg_tup (kgs_cons (by decide) (kgs_cons (by decide) kgs_nil))) (wi_seqV (by rfl) sl ?_)
  refine ⟨cnD x.1, lt_size (by omega), fun d hd oo acc => ?_, ?_⟩
  · obtain ⟨a, ww, ha⟩ := hc d hd
    have hnl := List.all_eq_true.mp kt d hd
    obtain ⟨s2, _⟩ := cn_seq ha
    have ed : d = .tup [.int a, .int ww] := by
      cases d <;> first | (cases hnl; done) | (cases s2; done) | (cases s2; rfl)
    have ec : cnD x.1 d = .tup [.int (a % x.1), .int ww] := by
      unfold cnD
      rw [ha]
    rw [ec, ed]
    refine wg_tup rfl ?_
    repeat (walk_at "s1")
    refine rd_mod (by omega) ?_
    repeat (walk_at "s1")
    exact ⟨rfl, rfl, rfl⟩
  refine we_var rfl ⟨rfl, rfl, T.n_Layers_lot.1, T.n_Layers_lot.2, by decide, ?_⟩
  refine ws_fld (j := 0) (o := o) (C := A.Layers) (dx := dx) (ns := ["net", "prime", "begin", "lot"]) (ds := [nD A x, .int x.1, .tup (bg.map D.int), .lst (l.map (cnD x.1))]) (fun _ _ _ _ z => z) ?_
  have gl := gLen_eq (A := A) (x := x) hn.few
  have few := hn.few
  refine we_lcM (kg_name (by decide)) (wi_rng1 ?_)
  repeat (walk_at "s1")
  refine rc_lenO gl (by omega) (by omega) ?_
  refine wl_nil ⟨_, rfl, by omega, by omega, ?_⟩
  rw [Int.toNat_natCast]
  refine ⟨fun d => .int (2 * bitAt x ((dI d).toNat + 1) + 1), lt_size (by rw [rngD_len]; omega), fun d hd oo acc => ?_, ?_⟩
  · obtain ⟨k, hk, rfl⟩ := List.mem_iff_getElem.mp hd
    have hk2 : (rngD 0 x.2.1.length)[k]? = some (rngD 0 x.2.1.length)[k] := List.getElem?_eq_getElem hk
    obtain ⟨ed, hk3⟩ := rngD_get hk2
    rw [Int.zero_add] at ed
    rw [ed]
    have gb := gBits_at (A := A) (k := k + 1) hn (by omega)
    obtain ⟨c0, c1⟩ := bitAt_le (k := k + 1) hn (by omega)
    refine wg_nm (by rfl) ?_
    refine we_op (we_op (we_int ?_))
    refine we_methF (X := fun _ _ _ _ => False) xok0 (we_var rfl ⟨_, _, rfl, by decide, wl_cons (we_op (we_var rfl (we_int (rd_add_int (wl_nil (co_ret rfl gb ?_))))))⟩)
    refine rd_mul (mul_small (by omega) (by omega)) ?_
    refine we_int (rd_add_int ?_)
    exact ⟨rfl, rfl, rfl⟩
  have esz : (rngD 0 x.2.1.length).map (fun d => D.int (2 * bitAt x ((dI d).toNat + 1) + 1)) = (szOf x).map D.int := by
    unfold rngD szOf
    rw [List.map_map, List.map_map]
    refine List.map_congr_left fun k _ => ?_
    show D.int (2 * bitAt x (((0 : Int) + (k : Int)).toNat + 1) + 1) = D.int (2 * bitAt x (k + 1) + 1)
    rw [Int.zero_add, Int.toNat_natCast]
  rw [esz]
  refine we_var rfl ⟨rfl, rfl, T.n_Layers_sizes.1, T.n_Layers_sizes.2, by decide, ?_⟩
  exact ⟨_, _, rfl, ho⟩
end
end K54

set_option Elab.async false
set_option linter.all false
set_option maxRecDepth 100000
set_option maxHeartbeats 4000000
namespace K54
open PySem PySem.Spec PyProof.Rows L2 DL
section
variable {P : Program} {w : World} {K : PySem.W.Frag} {mg : Str → Option Value} {base : Heap} {A : Ad}
local macro_rules | `(tactic| walk_at "s0") => `(tactic| with_reducible first
  | refine ws_seq ?_ | refine ws_next ?_ | refine ws_ret ?_ | refine ws_retN ?_ | refine ws_if ?_ | refine ws_asg ?_ | refine ws_drop ?_ | refine ws_par ?_ | refine ws_break ?_ | refine ws_cont ?_
  | refine we_var rfl ?_ | refine we_int ?_ | refine we_non ?_ | refine we_bl ?_ | refine we_str ?_ | refine we_ty ?_ | refine we_dnew ?_ | refine we_op ?_ | refine we_un ?_
  | refine we_and ?_ | refine we_or ?_ | refine we_not ?_ | refine we_if ?_ | refine we_chain ?_ | refine we_cb ?_ | refine we_tup ?_ | refine we_lst ?_
  | refine wl_cons ?_ | refine wl_nil ?_ | refine wt_B ?_ | refine wt_test ?_ | refine wt_and ?_ | refine wt_or ?_ | refine wt_not ?_ | refine wt_yes ?_
  | refine wi_tup ?_ | refine wi_list ?_ | refine wg_tup rfl ?_ | refine wgs_cons ?_ | refine wgs_nil ?_
  | refine rd_add_int ?_ | refine rd_sub ?_ | refine rd_lt ?_ | refine rd_le ?_ | refine rd_gt ?_ | refine rd_ge ?_ | refine rd_eq_int ?_ | refine rd_ne_int ?_ | refine rd_eq_str ?_ | refine rd_ne_str ?_ | refine rd_eq_bl ?_ | refine rd_ne_bl ?_ | refine rd_is ?_ | refine rd_is_bl ?_ | refine rd_isnot ?_ | refine ru_neg ?_
  | refine rc_int ?_ | refine rc_abs ?_ | refine rc_anyF ?_ | refine rc_allF ?_
  | refine brT ?_ | refine brF ?_ | refine brT' ?_ | refine brF' ?_
  | refine ⟨_, rfl, ?_⟩)
set_option hygiene false in
local macro_rules | `(tactic| walk_at "s1") => `(tactic| first
  | refine we_isiLT ?_ | refine we_isiILT ?_ | refine wi_seqV (by rfl) (by rfl) ?_ | walk_at "s0" | refine ⟨true, by rfl, ?_⟩ | refine ⟨false, by rfl, ?_⟩ | refine we_ref ?_ | refine we_fld1 ?_ | refine ⟨_, _, _, _, rfl, T.n_Gates_prime, by rfl, ?_⟩ | refine ⟨_, _, _, _, rfl, T.n_Gates_rows, by rfl, ?_⟩ | refine ⟨_, _, _, _, rfl, T.n_Gates_worths, by rfl, ?_⟩ | refine ⟨_, _, _, _, rfl, T.n_Poly_prime, by rfl, ?_⟩ | refine ⟨_, _, _, _, rfl, T.n_Poly_row, by rfl, ?_⟩ | refine ⟨_, _, _, _, rfl, T.n_Layers_net, by rfl, ?_⟩ | refine ⟨_, _, _, _, rfl, T.n_Layers_prime, by rfl, ?_⟩ | refine ⟨_, _, _, _, rfl, T.n_Layers_begin, by rfl, ?_⟩ | refine ⟨_, _, _, _, rfl, T.n_Layers_lot, by rfl, ?_⟩ | refine ⟨_, _, _, _, rfl, T.n_Layers_sizes, by rfl, ?_⟩ | refine rc_isiB (r := true) (by rfl) ?_ | refine rc_isiO T.k_Gates ?_ | refine rc_isiN T.k_Gates (by rfl) ?_ | refine rc_isiO T.k_Poly ?_ | refine rc_isiN T.k_Poly (by rfl) ?_ | refine rc_isiO T.k_Layers ?_ | refine rc_isiN T.k_Layers (by rfl) ?_ | refine we_callF (by assumption) ?_ | refine we_callF (X := fun _ _ _ _ => False) xok0 ?_ | refine we_callFl (by assumption) ?_ | refine we_callFl (X := fun _ _ _ _ => False) xok0 ?_ | refine we_makeFl (by assumption) ?_ | refine we_makeFl (X := fun _ _ _ _ => False) xok0 ?_ | refine we_makeF (by assumption) ?_ | refine we_makeF (X := fun _ _ _ _ => False) xok0 ?_ | refine DX.ws_rs (by assumption) ?_ | refine wt_test ?_ | refine co_ret rfl (by rfl) ?_ | refine wg_nm (by rfl) ?_ | refine parB (by rfl) (by rfl) ?_ | refine szB (by rfl) ?_ | refine szL (by rfl) ?_ | refine brT2 (by rfl) ?_ | refine brF2 (by rfl) ?_ | refine brT3 (by rfl) ?_ | refine brF3 (by rfl) ?_ | refine rc_isiB (r := false) (by rfl) ?_)
/-! what a talk is asked -/
theorem met_none {C : Addr} {m qual : Str} {st : Stmt} {N ps : List Str} {k n : Nat} (h : ∃ (f : Addr) (fd : FuncData), Cls K C ∧ Meth K C m f ∧ Fun K m qual st f fd ∧ L2.Binds K fd ps []) (S : FnScope N ps (defScope st)) {s : Spc} (hs : ∀ R ds b, ¬ s.pre R ds b) : MetX P w K mg base (k + 1) C m (SpS K n s) := by
  obtain ⟨f, fd, cl, me, F, bi⟩ := h
  have no : ∀ vs H Q E, ¬ SpS K n s vs H Q E := fun vs H Q E h => by
    obtain ⟨_, R, k0, ds, b, _, _, _, _, h1, _⟩ := h
    exact hs R ds b h1
  exact ⟨f, fd, ps, cl, me, F.okX S (fun vs H Q E h => (no _ _ _ _ h).elim) (fun cdv A outer s H vs Q E hr h => (no _ _ _ _ h).elim), bi⟩
theorem mak_none {C : Addr} {x qual : Str} {st : Stmt} {N ps : List Str} {k n : Nat} (h : ∃ (f : Addr) (fd : FuncData), Mk K C f ∧ Fun K "__init__" qual st f fd ∧ L2.Binds K fd ps []) (hm : mg x = some (.ref C)) (S : FnScope N ps (defScope st)) {s : Spc} (hs : ∀ R ds b, ¬ s.pre R ds b) : MakX P w K mg base (k + 1) x C (SpS K n s) := by
  obtain ⟨f, fd, M, F, bi⟩ := h
  have no : ∀ vs H Q E, ¬ SpS K n s vs H Q E := fun vs H Q E h => by
    obtain ⟨_, R, k0, ds, b, _, _, _, _, h1, _⟩ := h
    exact hs R ds b h1
  exact ⟨f, fd, ps, M, F.okX S (fun vs H Q E h => (no _ _ _ _ h).elim) (fun cdv A outer s H vs Q E hr h => (no _ _ _ _ h).elim), hm, bi⟩
theorem no_spc : ∀ (R : Res) (ds : List D) (b : Nat), ¬ (spcF fun _ => none).pre R ds b := fun R ds b ⟨o, h⟩ => nomatch h
abbrev Tk := Net × List Int × List D
abbrev tkD (A : Ad) (t : Tk) : D := layD A t.1 t.2.1 t.2.2
theorem iL_inj2 {a b : List Int} (h : a.map D.int = b.map D.int) : a = b := map_inj' (fun x y e => by injection e) h
theorem tk_inj {A : Ad} {t u : Tk} (h : tkD A t = tkD A u) : t = u := by
  injection h with _ _ h
  injection h with h1 h
  injection h with _ h
  injection h with h2 h
  injection h with h3 _
  injection h2 with h2
  injection h3 with h3
  exact Prod.ext (nD_inj h1) (Prod.ext (iL_inj2 h2) h3)
structure tkOk (t : Tk) : Prop where
  net : netG t.1
  few : t.2.1.length ≤ 2
theorem sz_le {x : Net} (h : netOk x.2.1 x.2.2) {k : Nat} (hk : k < x.2.1.length) : (szOf x)[k]? = some (2 * bitAt x (k + 1) + 1) := by
  unfold szOf
  rw [List.getElem?_map, List.getElem?_range hk]
  rfl
def beatsOf (x : Net) : Int := (szOf x).sum
theorem sum_le : ∀ {l : List Int}, (∀ y ∈ l, 1 ≤ y ∧ y ≤ 5) → (l.length : Int) ≤ l.sum ∧ l.sum ≤ 5 * l.length
  | [], _ => ⟨by simp, by simp⟩
  | y :: l, h => by
    have := sum_le (l := l) fun z hz => h z (List.mem_cons_of_mem _ hz)
    have := h y List.mem_cons_self
    rw [List.sum_cons, List.length_cons]
    omega
theorem sz_bd {x : Net} (h : netOk x.2.1 x.2.2) : ∀ y ∈ szOf x, 1 ≤ y ∧ y ≤ 5 := fun y hy => by
  obtain ⟨k, hk, rfl⟩ := List.mem_map.mp hy
  have := bitAt_le (x := x) (k := k + 1) h (by have := List.mem_range.mp hk; omega)
  omega
theorem beats_le {x : Net} (h : netOk x.2.1 x.2.2) : 0 ≤ beatsOf x ∧ beatsOf x ≤ 250 := by
  have := sum_le (sz_bd h)
  have := h.few
  rw [szOf_len] at *
  unfold beatsOf
  omega
noncomputable def gBeats (A : Ad) : List D → Option Out := gOf (fun t : Tk => [tkD A t]) (fun _ => True) fun t => .ret (.int (beatsOf t.1))
theorem gBeats_eq {A : Ad} (t : Tk) : gBeats A [tkD A t] = some (.ret (.int (beatsOf t.1))) := gOf_eq (ar := fun t : Tk => [tkD A t]) (x := t) (fun x y e => by
  injection e with e _
  exact tk_inj e) trivial
theorem ok_beats (T : Tx P K mg A) : MetX P w K mg base 1 A.Layers "beats" (SpS K 1 (spcF (gBeats A))) := by
  obtain ⟨f, fd, cl, me, F, bi⟩ := T.t_Layers_beats
  refine ⟨f, fd, _, cl, me, fnS F sc_Layers_beats rfl (fun cdv A' outer sh H E hr => ⟨_, (pss_one (ps_ret (pe_callB (DK.sum (K := K)) (by rfl) T.z_sum (by decide +kernel) (pa_cons (DK.pe_fld (K := K) (pv 0)) pa_nil)))), fun R k0 ds b hp hl hE => ?_⟩), bi⟩
  obtain ⟨o, ho⟩ := hp
  obtain ⟨t, rfl, _, rfl⟩ := gOf_inv ho
  repeat (walk_at "s1")
  refine rc_sum (ns := szOf t.1) ?_
  exact ⟨ho, rfl⟩
/-! coins thrown -/
def thrI (d : D) (m : Int) : Option Int := match oddD d with
  | .int i => some i
  | _ => if m < ((itemsD d).length : Int) then some ((itemsD d).length : Int) else none
def gThrn (A : Ad) : List D → Option Out
  | [d, .int m] => if okO d = true then some (match thrI d m with | some i => .exc A.BadThrown ["index"] [.int i] | none => .ret .non) else none
  | _ => none
theorem gThrn_eq {A : Ad} {d : D} {m : Int} (h : okO d = true) : gThrn A [d, .int m] = some (match thrI d m with | some i => .exc A.BadThrown ["index"] [.int i] | none => .ret .non) := if_pos h
theorem oddD_cases (d : D) : (oddD d = .non ∧ isNon (oddD d) = true) ∨ ∃ i : Int, oddD d = .int i := by
  have key : ∀ o : Option Nat, (oddO o = .non ∧ isNon (oddO o) = true) ∨ ∃ i : Int, oddO o = .int i := fun o => by
    cases o with
    | none => exact .inl ⟨rfl, rfl⟩
    | some i => exact .inr ⟨i, rfl⟩
  cases d <;> first | exact key _ | exact .inr ⟨0, rfl⟩
theorem ok_check_thrown (T : Tx P K mg A) : CalX P w K mg base 3 "check_thrown" (SpS K 2 (spcF (gThrn A))) := by
  have c_first_odd := @ok_first_odd P w K mg base A T
  obtain ⟨a, fd, F, m, bi⟩ := T.f_check_thrown
  refine ⟨a, fd, _, fnS F sc_check_thrown rfl (fun cdv A' outer sh H E hr => ⟨_, (pss_cons (ps_asg (pe_cx c_first_odd hr (by omega) (by rfl) (passes_call (takes_of rfl rfl rfl rfl) (fun _ _ _ _ z => z)) (pa_cons (pv 0) pa_nil)) (pg_name (i := 2) sc_check_thrown.nd rfl (by first | exact .inl rfl | exact .inr rfl)))
  (pss_cons (ps_if (pt_cmpR op_isnotK (pv 2) pe_non (nomark _))
  (pss_one (DX.ps_rs (takes_of rfl rfl rfl rfl) T.x_BadThrown (by decide) (by decide) hr (pa_cons (pv 2) pa_nil)))
  pss_nil)
  (pss_one (ps_if (pt_cmpR op_gtK (pe_callB (DK.len (K := K)) (by rfl) T.z_len (by decide +kernel) (pa_cons (pv 0) pa_nil)) (pv 1) (nomark _))
  (pss_one (DX.ps_rs (takes_of rfl rfl rfl rfl) T.x_BadThrown (by decide) (by decide) hr (pa_cons (pe_callB (DK.len (K := K)) (by rfl) T.z_len (by decide +kernel) (pa_cons (pv 0) pa_nil)) pa_nil)))
  pss_nil)))), fun R k0 ds b hp hl hE => ?_⟩), m, F.kp, bi⟩
  obtain ⟨o, ho⟩ := hp
  obtain ⟨d, m, rfl⟩ : ∃ d m, ds = [d, .int m] := by
    unfold gThrn at ho
    split at ho
    · exact ⟨_, _, rfl⟩
    · cases ho
  have ek : okO d = true := by
    by_cases h : okO d = true
    · exact h
    · have e : gThrn A [d, .int m] = none := if_neg h
      rw [e] at ho
      cases ho
  have eg := gThrn_eq (A := A) (m := m) ek
  have hx := xok_def hE
  have hX := xokW hx
  refine ws_seq (ws_asg (we_callFl (X := fun _ _ _ _ => False) xok0 (wl_cons (we_var rfl (wl_nil (co_ret rfl (show gOdd [d] = some (.ret (oddD d)) from if_pos ek) ?_))))))
  refine wg_nm (by rfl) ?_
  dsimp only [List.set]
  rcases oddD_cases d with ⟨e, en⟩ | ⟨i, e⟩
  · obtain ⟨xs, lx, es, ei, _⟩ := ints_I ek en
    have sq : seqOf d = some (xs.map D.int) := by rcases es with rfl | rfl <;> rfl
    have et : thrI d m = if m < ((xs.map D.int).length : Int) then some ((xs.map D.int).length : Int) else none := by
      unfold thrI
      rw [e, ei]
    rw [e]
    rw [et] at eg
    repeat (walk_at "s1")
    refine rc_len sq ?_
    repeat (walk_at "s1")
    refine ⟨fun hz => ?_, fun hz => ?_⟩
    · rw [if_pos (of_decide_eq_true hz)] at eg
      repeat (walk_at "s1")
      refine rc_len sq ?_
      exact wl_nil ⟨rfl, eg, rfl⟩
    · rw [if_neg (of_decide_eq_false hz)] at eg
      repeat (walk_at "s1")
      exact ⟨eg, rfl⟩
  · have et : thrI d m = some i := by
      unfold thrI
      rw [e]
    rw [et] at eg
    rw [e]
    repeat (walk_at "s1")
    exact ⟨rfl, eg, rfl⟩
end
end K54

set_option Elab.async false
set_option linter.all false
set_option maxRecDepth 100000
set_option maxHeartbeats 4000000
namespace K54
open PySem PySem.Spec PyProof.Rows L2 DL
section
variable {P : Program} {w : World} {K : PySem.W.Frag} {mg : Str → Option Value} {base : Heap} {A : Ad}
local macro_rules | `(tactic| walk_at "s0") => `(tactic| with_reducible first
  | refine ws_seq ?_ | refine ws_next ?_ | refine ws_ret ?_ | refine ws_retN ?_ | refine ws_if ?_ | refine ws_asg ?_ | refine ws_drop ?_ | refine ws_par ?_ | refine ws_break ?_ | refine ws_cont ?_
  | refine we_var rfl ?_ | refine we_int ?_ | refine we_non ?_ | refine we_bl ?_ | refine we_str ?_ | refine we_ty ?_ | refine we_dnew ?_ | refine we_op ?_ | refine we_un ?_
  | refine we_and ?_ | refine we_or ?_ | refine we_not ?_ | refine we_if ?_ | refine we_chain ?_ | refine we_cb ?_ | refine we_tup ?_ | refine we_lst ?_
  | refine wl_cons ?_ | refine wl_nil ?_ | refine wt_B ?_ | refine wt_test ?_ | refine wt_and ?_ | refine wt_or ?_ | refine wt_not ?_ | refine wt_yes ?_
  | refine wi_tup ?_ | refine wi_list ?_ | refine wg_tup rfl ?_ | refine wgs_cons ?_ | refine wgs_nil ?_
  | refine rd_add_int ?_ | refine rd_sub ?_ | refine rd_lt ?_ | refine rd_le ?_ | refine rd_gt ?_ | refine rd_ge ?_ | refine rd_eq_int ?_ | refine rd_ne_int ?_ | refine rd_eq_str ?_ | refine rd_ne_str ?_ | refine rd_eq_bl ?_ | refine rd_ne_bl ?_ | refine rd_is ?_ | refine rd_is_bl ?_ | refine rd_isnot ?_ | refine ru_neg ?_
  | refine rc_int ?_ | refine rc_abs ?_ | refine rc_anyF ?_ | refine rc_allF ?_
  | refine brT ?_ | refine brF ?_ | refine brT' ?_ | refine brF' ?_
  | refine ⟨_, rfl, ?_⟩)
set_option hygiene false in
local macro_rules | `(tactic| walk_at "s1") => `(tactic| first
  | refine we_isiLT ?_ | refine we_isiILT ?_ | refine wi_seqV (by rfl) (by rfl) ?_ | walk_at "s0" | refine ⟨true, by rfl, ?_⟩ | refine ⟨false, by rfl, ?_⟩ | refine we_ref ?_ | refine we_fld1 ?_ | refine ⟨_, _, _, _, rfl, T.n_Gates_prime, by rfl, ?_⟩ | refine ⟨_, _, _, _, rfl, T.n_Gates_rows, by rfl, ?_⟩ | refine ⟨_, _, _, _, rfl, T.n_Gates_worths, by rfl, ?_⟩ | refine ⟨_, _, _, _, rfl, T.n_Poly_prime, by rfl, ?_⟩ | refine ⟨_, _, _, _, rfl, T.n_Poly_row, by rfl, ?_⟩ | refine ⟨_, _, _, _, rfl, T.n_Layers_net, by rfl, ?_⟩ | refine ⟨_, _, _, _, rfl, T.n_Layers_prime, by rfl, ?_⟩ | refine ⟨_, _, _, _, rfl, T.n_Layers_begin, by rfl, ?_⟩ | refine ⟨_, _, _, _, rfl, T.n_Layers_lot, by rfl, ?_⟩ | refine ⟨_, _, _, _, rfl, T.n_Layers_sizes, by rfl, ?_⟩ | refine rc_isiB (r := true) (by rfl) ?_ | refine rc_isiO T.k_Gates ?_ | refine rc_isiN T.k_Gates (by rfl) ?_ | refine rc_isiO T.k_Poly ?_ | refine rc_isiN T.k_Poly (by rfl) ?_ | refine rc_isiO T.k_Layers ?_ | refine rc_isiN T.k_Layers (by rfl) ?_ | refine we_callF (by assumption) ?_ | refine we_callF (X := fun _ _ _ _ => False) xok0 ?_ | refine we_callFl (by assumption) ?_ | refine we_callFl (X := fun _ _ _ _ => False) xok0 ?_ | refine we_makeFl (by assumption) ?_ | refine we_makeFl (X := fun _ _ _ _ => False) xok0 ?_ | refine we_makeF (by assumption) ?_ | refine we_makeF (X := fun _ _ _ _ => False) xok0 ?_ | refine DX.ws_rs (by assumption) ?_ | refine wt_test ?_ | refine co_ret rfl (by rfl) ?_ | refine wg_nm (by rfl) ?_ | refine parB (by rfl) (by rfl) ?_ | refine szB (by rfl) ?_ | refine szL (by rfl) ?_ | refine brT2 (by rfl) ?_ | refine brF2 (by rfl) ?_ | refine brT3 (by rfl) ?_ | refine brF3 (by rfl) ?_ | refine rc_isiB (r := false) (by rfl) ?_)
/-! the spot of a talk -/
def mixL (p : Int) (a b : List Int) (k : Int) : List Int := List.zipWith (fun x y => (x + k * (y - x)) % p) a b
def lyS (x : Net) : Nat → Nat → List Int → List Int → Nat × List Int × List Int
  | 0, k, pl, own => (k, pl, own)
  | f + 1, k, pl, own => if 2 * (bitAt x (k + 1)).toNat + 1 ≤ own.length then lyS x f (k + 1) (mixL x.1 (own.take (bitAt x (k + 1)).toNat) ((own.drop (bitAt x (k + 1)).toNat).take (bitAt x (k + 1)).toNat) (own.getD (2 * (bitAt x (k + 1)).toNat) 0)) (own.drop (2 * (bitAt x (k + 1)).toNat + 1)) else (k, pl, own)
def spD (q : Nat × List Int × List Int) : D := .tup [.int (q.1 : Int), .tup (q.2.1.map D.int), iL q.2.2]
def spotOf (t : Tk) (d : D) : Nat × List Int × List Int := lyS t.1 t.1.2.1.length 0 t.2.1 ((intsD d).map fun y => y % t.1.1)
noncomputable def gSpot (A : Ad) : List D → Option Out := gOf (fun z : Tk × D => [tkD A z.1, z.2]) (fun z => tkOk z.1 ∧ okO z.2 = true) fun z => match thrI z.2 (beatsOf z.1.1) with
  | some i => .exc A.BadThrown ["index"] [.int i]
  | none => .ret (spD (spotOf z.1 z.2))
theorem td_inj {A : Ad} (x y : Tk × D) (e : [tkD A x.1, x.2] = [tkD A y.1, y.2]) : x = y := by
  injection e with e1 e
  injection e with e2 _
  exact Prod.ext (tk_inj e1) e2
theorem gSpot_eq {A : Ad} {t : Tk} {d : D} (h : tkOk t) (h2 : okO d = true) : gSpot A [tkD A t, d] = some (match thrI d (beatsOf t.1) with
  | some i => .exc A.BadThrown ["index"] [.int i]
  | none => .ret (spD (spotOf t d))) := gOf_eq (ar := fun z : Tk × D => [tkD A z.1, z.2]) (x := (t, d)) td_inj ⟨h, h2⟩
theorem thrI_none {d : D} {m : Int} (h : okO d = true) (hn : thrI d m = none) : ∃ xs : List Int, xs.length ≤ 1000 ∧ seqOf d = some (xs.map D.int) ∧ intsD d = xs ∧ (xs.length : Int) ≤ m := by
  rcases oddD_cases d with ⟨e, en⟩ | ⟨i, e⟩
  · obtain ⟨xs, lx, es, ei, ej⟩ := ints_I h en
    refine ⟨xs, lx, by rcases es with rfl | rfl <;> rfl, ej, ?_⟩
    unfold thrI at hn
    rw [e, ei] at hn
    have hn : (if m < ((xs.map D.int).length : Int) then some ((xs.map D.int).length : Int) else none) = none := hn
    by_cases hm : m < ((xs.map D.int).length : Int)
    · rw [if_pos hm] at hn; cases hn
    · rw [List.length_map] at hm
      omega
  · unfold thrI at hn
    rw [e] at hn
    cases hn
theorem cut_mid {l : List D} {a b : Nat} (h : a ≤ b) (h2 : b ≤ l.length) : DL.cutD l (some (a : Int)) (some (b : Int)) = (l.drop a).take (b - a) := by
  have e1 : HT.sIx l.length 0 (some (a : Int)) = min a l.length := HT.sIx_nat _ _ _
  have e2 : HT.sIx l.length l.length (some (b : Int)) = min b l.length := HT.sIx_nat _ _ _
  unfold DL.cutD
  rw [e1, e2, Nat.min_eq_left h2, Nat.min_eq_left (Nat.le_trans h h2)]
theorem zip_mapF {f : D → D} {g : Int → Int → Int} (h : ∀ x y, f (.tup [.int x, .int y]) = .int (g x y)) : ∀ a b : List Int, (zipD (a.map D.int) (b.map D.int)).map f = (List.zipWith g a b).map D.int
  | [], _ => rfl
  | _ :: _, [] => rfl
  | x :: a, y :: b => by
    show f (.tup [.int x, .int y]) :: (zipD (a.map D.int) (b.map D.int)).map f = D.int (g x y) :: (List.zipWith g a b).map D.int
    rw [zip_mapF h a b, h]
theorem zip_get3 {a b : List Int} {d : D} (h : d ∈ zipD (a.map D.int) (b.map D.int)) : ∃ x ∈ a, ∃ y ∈ b, d = .tup [.int x, .int y] := by
  obtain ⟨i, hi, e⟩ := List.mem_iff_getElem.mp h
  obtain ⟨x, y, h1, h2, h3⟩ := zipD_get (l := a.map D.int) (m := b.map D.int) (i := i) (d := d) (by rw [List.getElem?_eq_getElem hi, e])
  obtain ⟨u, hu, rfl⟩ := List.mem_map.mp (List.mem_of_getElem? h1)
  obtain ⟨v, hv, rfl⟩ := List.mem_map.mp (List.mem_of_getElem? h2)
  exact ⟨u, hu, v, hv, h3⟩
set_option maxHeartbeats 16000000 in
theorem ok_spot (T : Tx P K mg A) : MetX P w K mg base 4 A.Layers "spot" (SpS K 2 (spcF (gSpot A))) := by
  have c_check_thrown := @ok_check_thrown P w K mg base A T
  have c_Layers_beats := @ok_beats P w K mg base A T
  have c_Gates_bits := @ok_bits P w K mg base A T
  obtain ⟨f, fd, cl, me, F, bi⟩ := T.t_Layers_spot
  refine ⟨f, fd, _, cl, me, fnS F sc_Layers_spot rfl (fun cdv A' outer sh H E hr => ⟨_, (pss_cons (ps_expr (pe_cx c_check_thrown hr (by omega) (by rfl) (passes_call (takes_of rfl rfl rfl rfl) (fun _ _ _ _ z => z)) (pa_cons (pv 1) (pa_cons (pe_mtx0 (pv 0) c_Layers_beats hr (by omega) (passes_call (takes_of rfl rfl rfl rfl) (fun _ _ _ _ z => z))) pa_nil))))
  (pss_cons (ps_par3 (by rfl) sc_Layers_spot.nd (i := 2) (j := 3) (l := 4) rfl rfl rfl (by decide) (by decide) (by decide) rfl rfl rfl (pa_cons pe_int (pa_cons (DK.pe_fld (K := K) (pv 0)) (pa_cons (pe_lc (own := [("number", 9)]) (g := (gName 9)) (tt := tYes) rfl sc_Layers_spot.nd (DK.pi_seq (K := K) (pv 1)) (blkOk_by (own := [("number", 9)]) (N := n_Layers_spot) (sc := (defScope s_Layers_spot)) (by first | decide +kernel | kernel_rfl)) (fun _ _ _ _ _ => (pg_name (i := 9) sc_Layers_spot.nd rfl (by first | exact .inl rfl | exact .inr rfl))) (fun _ _ _ _ _ => pts_nil) (fun _ _ _ _ _ => (pe_op op_modK (pv 9) (DK.pe_fld (K := K) (pv 0))))) pa_nil))) (by rfl))
  (pss_cons (ps_while (passes_of rfl) (PW.pt (pw_and (pt_cmpR op_ltK (pv 2) (pe_callB (DK.len (K := K)) (by rfl) T.z_len (by decide +kernel) (pa_cons (DK.pe_fld (K := K) (pv 0)) pa_nil)) (nomark _)) (pw_and1 (pt_cmpR op_geK (pe_callB (DK.len (K := K)) (by rfl) T.z_len (by decide +kernel) (pa_cons (pv 4) pa_nil)) (pe_ix (DK.ix (K := K)) (DK.pe_fld (K := K) (pv 0)) (pv 2) (fun _ _ => rfl)) (nomark _)))))
  (pss_cons (ps_asg (pe_mtx (DK.pe_fld (K := K) (pv 0)) c_Gates_bits hr (by omega) (passes_call (takes_of rfl rfl rfl rfl) (fun _ _ _ _ z => z)) (pa_cons (pe_op (DK.op_add (K := K)) (pv 2) pe_int) pa_nil)) (pg_name (i := 5) sc_Layers_spot.nd rfl (by first | exact .inl rfl | exact .inr rfl)))
  (pss_cons (ps_asg (pe_tup (pa_cons (pe_slice (DK.sl (K := K)) (pv 4) po_none (po_some (pv 5))) (pa_cons (pe_slice (DK.sl (K := K)) (pv 4) (po_some (pv 5)) (po_some (pe_op op_mulK pe_int (pv 5)))) (pa_cons (pe_ix (DK.ix (K := K)) (pv 4) (pe_op op_mulK pe_int (pv 5)) (fun _ _ => rfl)) pa_nil)))) (DK.pg_tup (K := K) rfl (pgs_cons (pg_name (i := 6) sc_Layers_spot.nd rfl (by first | exact .inl rfl | exact .inr rfl)) (pgs_cons (pg_name (i := 7) sc_Layers_spot.nd rfl (by first | exact .inl rfl | exact .inr rfl)) (pgs_cons (pg_name (i := 8) sc_Layers_spot.nd rfl (by first | exact .inl rfl | exact .inr rfl)) pgs_nil)))))
  (pss_cons (ps_asg (pe_callTy (DK.tup (K := K)) (by rfl) T.z_tuple (by decide +kernel) (pa_cons (pe_lc (own := [("b", 10), ("c", 11)]) (g := (gTup K 2 (gCons (gName 10) (gCons (gName 11) gNil)))) (tt := tYes) rfl sc_Layers_spot.nd (DK.pi_zip (K := K) (by rfl) T.z_zip (pa_cons (pv 6) (pa_cons (pv 7) pa_nil))) (blkOk_by (own := [("b", 10), ("c", 11)]) (N := n_Layers_spot) (sc := (defScope s_Layers_spot)) (by first | decide +kernel | kernel_rfl)) (fun _ _ _ _ _ => (DK.pg_tup (K := K) rfl (pgs_cons (pg_name (i := 10) sc_Layers_spot.nd rfl (by first | exact .inl rfl | exact .inr rfl)) (pgs_cons (pg_name (i := 11) sc_Layers_spot.nd rfl (by first | exact .inl rfl | exact .inr rfl)) pgs_nil)))) (fun _ _ _ _ _ => pts_nil) (fun _ _ _ _ _ => (pe_op op_modK (pe_op (DK.op_add (K := K)) (pv 10) (pe_op op_mulK (pv 8) (pe_op op_subK (pv 11) (pv 10)))) (DK.pe_fld (K := K) (pv 0))))) pa_nil)) (pg_name (i := 3) sc_Layers_spot.nd rfl (by first | exact .inl rfl | exact .inr rfl)))
  (pss_one (ps_par (by rfl) sc_Layers_spot.nd (i := 2) (j := 4) rfl rfl (by decide) rfl rfl (pa_cons (pe_op (DK.op_add (K := K)) (pv 2) pe_int) (pa_cons (pe_slice (DK.sl (K := K)) (pv 4) (po_some (pe_op (DK.op_add (K := K)) (pe_op op_mulK pe_int (pv 5)) pe_int)) po_none) pa_nil)) (by rfl)))))))
  (pss_one (ps_ret (pe_tup (pa_cons (pv 2) (pa_cons (pv 3) (pa_cons (pv 4) pa_nil))))))))), fun R k0 ds b hp hl hE => ?_⟩), bi⟩
  obtain ⟨o, ho⟩ := hp
  obtain ⟨⟨⟨x, bg, lot⟩, d⟩, rfl, ⟨ht, hd⟩, rfl⟩ := gOf_inv ho
  have hx := xok_def hE
  dsimp only at ht hd ho hl hE hx ⊢
  have gc := gThrn_eq (A := A) (m := beatsOf x) hd
  have hn := ht.net.ok
  obtain ⟨p1, p2⟩ := prm_le ht.net.pr
  have p1 : 2 ≤ x.1 := p1
  have p2 : x.1 ≤ 101 := p2
  have hn : netOk x.2.1 x.2.2 := hn
  refine ws_seq (ws_drop (we_callF hx (wl_cons (we_var rfl (wl_cons ?_)))))
  refine we_methF (X := fun _ _ _ _ => False) xok0 (we_var rfl ⟨_, _, rfl, by decide, wl_nil (co_ret rfl (gBeats_eq (x, bg, lot)) ?_)⟩)
  refine wl_nil ?_
  cases hi : thrI d (beatsOf x) with
  | some i =>
    rw [hi] at gc ho
    exact co_exc rfl gc ⟨ho, rfl⟩
  | none =>
    rw [hi] at gc ho
    refine co_ret rfl gc ?_
    obtain ⟨xs, lx, sq, ej, _⟩ := thrI_none hd hi
    unfold spotOf at ho
    dsimp only at ho
    rw [ej] at ho
    refine ws_seq (ws_par3 (wl_cons (we_int (wl_cons ?_))))
    refine we_fld1 (we_var rfl ⟨_, _, _, _, rfl, T.n_Layers_begin, rfl, ?_⟩)
    refine wl_cons (we_lcM (kg_name (by decide)) (wi_seqV (by rfl) sq ?_))
    refine ⟨fun d => .int (dI d % x.1), lt_size (by rw [List.length_map]; omega), fun d hd oo acc => ?_, ?_⟩
    · obtain ⟨y, _, rfl⟩ := List.mem_map.mp hd
      refine wg_nm (by rfl) ?_
      repeat (walk_at "s1")
      refine rd_mod (by omega) ?_
      exact ⟨rfl, rfl, rfl⟩
    have einp : (xs.map D.int).map (fun d => D.int (dI d % x.1)) = (xs.map fun y => y % x.1).map D.int := by
      rw [List.map_map, List.map_map]
      rfl
    rw [einp]
    have hb : ∀ y ∈ xs.map (fun y => y % x.1), 0 ≤ y ∧ y < x.1 := fun y hy => by
      obtain ⟨u, _, rfl⟩ := List.mem_map.mp hy
      exact ⟨Int.emod_nonneg _ (by omega), Int.emod_lt_of_pos _ (by omega)⟩
    have hlen : (xs.map fun y => y % x.1).length ≤ 1000 := by rw [List.length_map]; exact lx
    generalize xs.map (fun y => y % x.1) = own0 at hb hlen ho
    refine wl_nil (parC (by rfl) (by rfl) (by rfl) ?_)
    dsimp only [List.set]
    refine ws_seq (ws_while (fun m ς => ∃ (k : Nat) (pl own : List Int) (x5 x6 x7 x8 x9 x10 x11 : Option D), ς = { δ := [some (tkD A (x, bg, lot)), some d, some (.int (k : Int)), some (.tup (pl.map D.int)), some (iL own), x5, x6, x7, x8, x9, x10, x11], b := b } ∧ m = x.2.1.length - k ∧ k ≤ x.2.1.length ∧
      lyS x (x.2.1.length - k) k pl own = lyS x x.2.1.length 0 bg own0 ∧ (∀ y ∈ own, 0 ≤ y ∧ y < x.1) ∧ own.length ≤ 1000) _ ⟨0, bg, own0, none, none, none, none, none, none, none, rfl, rfl, Nat.zero_le _, rfl, hb, hlen⟩ ?_)
    rintro m ς ⟨k, pl, own, x5, x6, x7, x8, x9, x10, x11, rfl, rfl, hk, he, hb, hlen⟩
    have fin : lyS x (x.2.1.length - k) k pl own = (k, pl, own) → gSpot A [tkD A (x, bg, lot), d] = some (.ret (.tup [.int (k : Int), .tup (pl.map D.int), iL own])) := fun e => by
      rw [ho, ← he, e]
      rfl
    refine wt_and (wt_test (we_op (we_var rfl ?_)))
    refine we_cb (wl_cons (we_fld1 (we_var rfl ⟨_, _, _, _, rfl, T.n_Layers_sizes, rfl, ?_⟩)))
    refine wl_nil (rc_lenI ?_)
    rw [szOf_len]
    refine rd_lt ⟨_, rfl, fun hz => ?_, fun hz => ?_⟩
    rotate_left
    · refine ⟨fun z => (nomatch z), fun _ => ?_⟩
      have hz : ¬ (k : Int) < (x.2.1.length : Int) := of_decide_eq_false hz
      have e0 : x.2.1.length - k = 0 := by omega
      have e := fin (by rw [e0]; rfl)
      dsimp only
      refine ws_ret (we_tup (wl_cons (we_var rfl (wl_cons (we_var rfl (wl_cons (we_var rfl (wl_nil (szB rfl ?_)))))))))
      exact ⟨e, rfl⟩
    have hz : (k : Int) < (x.2.1.length : Int) := of_decide_eq_true hz
    have hk2 : k < x.2.1.length := by omega
    obtain ⟨c0, c1⟩ := bitAt_le (k := k + 1) hn (by omega)
    obtain ⟨mm, hm⟩ := Int.eq_ofNat_of_zero_le c0
    have gb := gBits_at (A := A) (k := k + 1) hn (by omega)
    have es : lyS x (x.2.1.length - k) k pl own = if 2 * mm + 1 ≤ own.length then lyS x (x.2.1.length - (k + 1)) (k + 1) (mixL x.1 (own.take mm) ((own.drop mm).take mm) (own.getD (2 * mm) 0)) (own.drop (2 * mm + 1)) else (k, pl, own) := by
      have e1 : x.2.1.length - k = (x.2.1.length - (k + 1)) + 1 := by omega
      rw [e1]
      show (if 2 * (bitAt x (k + 1)).toNat + 1 ≤ own.length then _ else _) = _
      rw [hm]
      rfl
    refine wt_test (we_op (we_cb (wl_cons (we_var rfl (wl_nil (rc_lenI ?_))))))
    refine we_op (we_fld1 (we_var rfl ⟨_, _, _, _, rfl, T.n_Layers_sizes, rfl, ?_⟩))
    refine we_var rfl (rd_ix (l := (szOf x).map D.int) (d := .int (2 * bitAt x (k + 1) + 1)) rfl (DL.atI_nat (by rw [List.getElem?_map, sz_le hn hk2]; rfl)) ?_)
    rw [hm] at gb ⊢
    refine rd_ge ⟨_, rfl, ?_⟩
    refine ⟨fun hq => ?_, fun hq => ?_⟩
    rotate_left
    · have hq : ¬ 2 * mm + 1 ≤ own.length := by have := of_decide_eq_false hq; omega
      have e := fin (by rw [es, if_neg hq])
      dsimp only
      refine ws_ret (we_tup (wl_cons (we_var rfl (wl_cons (we_var rfl (wl_cons (we_var rfl (wl_nil (szB rfl ?_)))))))))
      exact ⟨e, rfl⟩
    have hq : 2 * mm + 1 ≤ own.length := by have := of_decide_eq_true hq; omega
    rw [es, if_pos hq] at he
    have lo : (own.map D.int).length = own.length := List.length_map _
    refine ws_seq (ws_asg (we_methF (X := fun _ _ _ _ => False) xok0 (we_fld1 (we_var rfl ⟨_, _, _, _, rfl, T.n_Layers_net, rfl, ⟨_, _, rfl, by decide, wl_cons (we_op (we_var rfl (we_int (rd_add_int (wl_nil (co_ret rfl gb ?_))))))⟩⟩))))
    refine wg_nm (by rfl) ?_
    dsimp only [List.set]
    refine ws_seq (ws_asg (we_tup (wl_cons (we_slL (we_var rfl (wo_none (wo_some (we_var rfl ⟨_, rfl, own.map D.int, rfl, wl_cons ?_⟩))))))))
    refine we_slL (we_var rfl (wo_some (we_var rfl ⟨_, rfl, wo_some (we_op (we_int (we_var rfl (rd_mul (mul_small (by omega) (by omega)) ⟨_, rfl, own.map D.int, rfl, ?_⟩))))⟩)))
    have e2 : (2 : Int) * (mm : Int) = ((2 * mm : Nat) : Int) := by omega
    rw [e2, cut_take, cut_mid (by omega) (by rw [lo]; omega)]
    have e3 : 2 * mm - mm = mm := by omega
    rw [e3, ← List.map_drop, ← List.map_take, ← List.map_take]
    have hv : own[2 * mm]? = some own[2 * mm] := List.getElem?_eq_getElem (by omega)
    have hg : own.getD (2 * mm) 0 = own[2 * mm] := by rw [List.getD_eq_getElem?_getD, hv]; rfl
    refine wl_cons (we_op (we_var rfl (we_op (we_int (we_var rfl (rd_mul (mul_small (by omega) (by omega)) ?_))))))
    rw [e2]
    refine rd_ix (l := own.map D.int) (d := .int own[2 * mm]) rfl (DL.atI_nat (by rw [List.getElem?_map, hv]; rfl)) ?_
    rw [hg] at he
    have hcn := hb _ (List.getElem_mem (l := own) (n := 2 * mm) (by omega))
    have h1 : ∀ y ∈ own.take mm, 0 ≤ y ∧ y < x.1 := fun y hy => hb y (List.mem_of_mem_take hy)
    have h2 : ∀ y ∈ (own.drop mm).take mm, 0 ≤ y ∧ y < x.1 := fun y hy => hb y (List.mem_of_mem_drop (List.mem_of_mem_take hy))
    have l1 : (own.take mm).length ≤ 1000 := by rw [List.length_take]; omega
    generalize own[2 * mm] = cn at he hcn
    generalize own.take mm = fa at he h1 l1
    generalize (own.drop mm).take mm = fb at he h2
    refine wl_nil (szB rfl (wg_tup rfl ?_))
    repeat (walk_at "s1")
    dsimp only [List.set]
    refine we_lcM (kg_tup (kgs_cons (by decide) (kgs_cons (by decide) kgs_nil))) (wi_zip ?_)
    refine wl_cons (we_var rfl (wl_cons (we_var rfl (wl_nil ⟨fa.map D.int, fb.map D.int, rfl, ?_⟩))))
    refine ⟨fun d => (match d with | .tup [.int u, .int v] => D.int ((u + cn * (v - u)) % x.1) | _ => .non), lt_size (by unfold zipD; rw [List.length_map, List.length_zip, List.length_map, List.length_map]; omega), fun d hd oo acc => ?_, ?_⟩
    · obtain ⟨u, hu, v, hv, rfl⟩ := zip_get3 hd
      have := h1 u hu
      have := h2 v hv
      refine wg_tup rfl ?_
      repeat (walk_at "s1")
      refine rd_mul (mul_small (by omega) (by omega)) ?_
      repeat (walk_at "s1")
      refine rd_mod (by omega) ?_
      exact ⟨rfl, rfl, rfl⟩
    rw [zip_mapF (g := fun u v => (u + cn * (v - u)) % x.1) (fun _ _ => rfl)]
    refine wl_nil (rc_tup rfl ?_)
    refine wg_nm (by rfl) ?_
    dsimp only [List.set]
    refine ws_par (wl_cons (we_op (we_var rfl (we_int (rd_add_int (wl_cons (we_slL (we_var rfl ?_))))))))
    refine wo_some (we_op (we_op (we_int (we_var rfl (rd_mul (mul_small (by omega) (by omega)) (we_int (rd_add_int ⟨_, rfl, wo_none ⟨own.map D.int, rfl, ?_⟩⟩)))))))
    have e4 : (2 : Int) * (mm : Int) + 1 = ((2 * mm + 1 : Nat) : Int) := by omega
    rw [e4, cut_drop, ← List.map_drop]
    refine wl_nil (parB (by rfl) (by rfl) ?_)
    dsimp only [List.set]
    have e5 : (k : Int) + 1 = ((k + 1 : Nat) : Int) := by omega
    rw [e5]
    exact ⟨x.2.1.length - (k + 1), by omega, k + 1, _, _, _, _, _, _, _, _, _, rfl, rfl, by omega, he, fun y hy => hb y (List.mem_of_mem_drop hy), by rw [List.length_drop]; omega⟩
end
end K54

set_option Elab.async false
set_option linter.all false
set_option maxRecDepth 100000
set_option maxHeartbeats 4000000
namespace K54
open PySem PySem.Spec PyProof.Rows L2 DL
section
variable {P : Program} {w : World} {K : PySem.W.Frag} {mg : Str → Option Value} {base : Heap} {A : Ad}
local macro_rules | `(tactic| walk_at "s0") => `(tactic| with_reducible first
  | refine ws_seq ?_ | refine ws_next ?_ | refine ws_ret ?_ | refine ws_retN ?_ | refine ws_if ?_ | refine ws_asg ?_ | refine ws_drop ?_ | refine ws_par ?_ | refine ws_break ?_ | refine ws_cont ?_
  | refine we_var rfl ?_ | refine we_int ?_ | refine we_non ?_ | refine we_bl ?_ | refine we_str ?_ | refine we_ty ?_ | refine we_dnew ?_ | refine we_op ?_ | refine we_un ?_
  | refine we_and ?_ | refine we_or ?_ | refine we_not ?_ | refine we_if ?_ | refine we_chain ?_ | refine we_cb ?_ | refine we_tup ?_ | refine we_lst ?_
  | refine wl_cons ?_ | refine wl_nil ?_ | refine wt_B ?_ | refine wt_test ?_ | refine wt_and ?_ | refine wt_or ?_ | refine wt_not ?_ | refine wt_yes ?_
  | refine wi_tup ?_ | refine wi_list ?_ | refine wg_tup rfl ?_ | refine wgs_cons ?_ | refine wgs_nil ?_
  | refine rd_add_int ?_ | refine rd_sub ?_ | refine rd_lt ?_ | refine rd_le ?_ | refine rd_gt ?_ | refine rd_ge ?_ | refine rd_eq_int ?_ | refine rd_ne_int ?_ | refine rd_eq_str ?_ | refine rd_ne_str ?_ | refine rd_eq_bl ?_ | refine rd_ne_bl ?_ | refine rd_is ?_ | refine rd_is_bl ?_ | refine rd_isnot ?_ | refine ru_neg ?_
  | refine rc_int ?_ | refine rc_abs ?_ | refine rc_anyF ?_ | refine rc_allF ?_
  | refine brT ?_ | refine brF ?_ | refine brT' ?_ | refine brF' ?_
  | refine ⟨_, rfl, ?_⟩)
set_option hygiene false in
local macro_rules | `(tactic| walk_at "s1") => `(tactic| first
  | refine we_isiLT ?_ | refine we_isiILT ?_ | refine wi_seqV (by rfl) (by rfl) ?_ | walk_at "s0" | refine ⟨true, by rfl, ?_⟩ | refine ⟨false, by rfl, ?_⟩ | refine we_ref ?_ | refine we_fld1 ?_ | refine ⟨_, _, _, _, rfl, T.n_Gates_prime, by rfl, ?_⟩ | refine ⟨_, _, _, _, rfl, T.n_Gates_rows, by rfl, ?_⟩ | refine ⟨_, _, _, _, rfl, T.n_Gates_worths, by rfl, ?_⟩ | refine ⟨_, _, _, _, rfl, T.n_Poly_prime, by rfl, ?_⟩ | refine ⟨_, _, _, _, rfl, T.n_Poly_row, by rfl, ?_⟩ | refine ⟨_, _, _, _, rfl, T.n_Layers_net, by rfl, ?_⟩ | refine ⟨_, _, _, _, rfl, T.n_Layers_prime, by rfl, ?_⟩ | refine ⟨_, _, _, _, rfl, T.n_Layers_begin, by rfl, ?_⟩ | refine ⟨_, _, _, _, rfl, T.n_Layers_lot, by rfl, ?_⟩ | refine ⟨_, _, _, _, rfl, T.n_Layers_sizes, by rfl, ?_⟩ | refine rc_isiB (r := true) (by rfl) ?_ | refine rc_isiO T.k_Gates ?_ | refine rc_isiN T.k_Gates (by rfl) ?_ | refine rc_isiO T.k_Poly ?_ | refine rc_isiN T.k_Poly (by rfl) ?_ | refine rc_isiO T.k_Layers ?_ | refine rc_isiN T.k_Layers (by rfl) ?_ | refine we_callF (by assumption) ?_ | refine we_callF (X := fun _ _ _ _ => False) xok0 ?_ | refine we_callFl (by assumption) ?_ | refine we_callFl (X := fun _ _ _ _ => False) xok0 ?_ | refine we_makeFl (by assumption) ?_ | refine we_makeFl (X := fun _ _ _ _ => False) xok0 ?_ | refine we_makeF (by assumption) ?_ | refine we_makeF (X := fun _ _ _ _ => False) xok0 ?_ | refine DX.ws_rs (by assumption) ?_ | refine wt_test ?_ | refine co_ret rfl (by rfl) ?_ | refine wg_nm (by rfl) ?_ | refine parB (by rfl) (by rfl) ?_ | refine szB (by rfl) ?_ | refine szL (by rfl) ?_ | refine brT2 (by rfl) ?_ | refine brF2 (by rfl) ?_ | refine brT3 (by rfl) ?_ | refine brF3 (by rfl) ?_ | refine rc_isiB (r := false) (by rfl) ?_)
/-! asks refused -/
noncomputable def gRef (A : Ad) (c : Int) : List D → Option Out := gOf (fun z : Tk × D => [tkD A z.1, z.2]) (fun z => tkOk z.1 ∧ okO z.2 = true ∧ (thrI z.2 (beatsOf z.1.1 - c)).isSome = true) fun z => .exc A.BadThrown ["index"] [.int ((thrI z.2 (beatsOf z.1.1 - c)).getD 0)]
theorem gRef_eq {A : Ad} {c : Int} {t : Tk} {d : D} {i : Int} (h0 : tkOk t) (h : okO d = true) (h2 : thrI d (beatsOf t.1 - c) = some i) : gRef A c [tkD A t, d] = some (.exc A.BadThrown ["index"] [.int i]) := by
  have e := gOf_eq (ar := fun z : Tk × D => [tkD A z.1, z.2]) (ok := fun z => tkOk z.1 ∧ okO z.2 = true ∧ (thrI z.2 (beatsOf z.1.1 - c)).isSome = true) (res := fun z => .exc A.BadThrown ["index"] [.int ((thrI z.2 (beatsOf z.1.1 - c)).getD 0)]) (x := (t, d)) td_inj ⟨h0, h, by dsimp only; rw [h2]; rfl⟩
  dsimp only at e
  rw [h2] at e
  exact e
theorem gRef_inv {A : Ad} {c : Int} {ds : List D} {o : Out} (h : gRef A c ds = some o) : ∃ (t : Tk) (d : D) (i : Int), ds = [tkD A t, d] ∧ tkOk t ∧ okO d = true ∧ thrI d (beatsOf t.1 - c) = some i ∧ o = .exc A.BadThrown ["index"] [.int i] := by
  obtain ⟨⟨t, d⟩, rfl, ⟨h0, h1, h2⟩, rfl⟩ := gOf_inv h
  obtain ⟨i, hi⟩ := Option.isSome_iff_exists.mp h2
  dsimp only at h0 h1 hi
  exact ⟨t, d, i, rfl, h0, h1, hi, by dsimp only; rw [hi]; rfl⟩
theorem ok_next_spot (T : Tx P K mg A) : MetX P w K mg base 5 A.Layers "next_spot" (SpS K 2 (spcF (gRef A 1))) := by
  have c_check_thrown := @ok_check_thrown P w K mg base A T
  have c_Layers_beats := @ok_beats P w K mg base A T
  have c_Layers_spot := @ok_spot P w K mg base A T
  obtain ⟨f, fd, cl, me, F, bi⟩ := T.t_Layers_next_spot
  refine ⟨f, fd, _, cl, me, fnS F sc_Layers_next_spot rfl (fun cdv A' outer sh H E hr => ⟨_, (pss_cons (ps_expr (pe_cx c_check_thrown hr (by omega) (by rfl) (passes_call (takes_of rfl rfl rfl rfl) (fun _ _ _ _ z => z)) (pa_cons (pv 1) (pa_cons (pe_op op_subK (pe_mtx0 (pv 0) c_Layers_beats hr (by omega) (passes_call (takes_of rfl rfl rfl rfl) (fun _ _ _ _ z => z))) pe_int) pa_nil))))
  (pss_one (ps_ret (pe_mtx (pv 0) c_Layers_spot hr (by omega) (passes_call (takes_of rfl rfl rfl rfl) (fun _ _ _ _ z => z)) (pa_cons (pv 1) pa_nil))))), fun R k0 ds b hp hl hE => ?_⟩), bi⟩
  obtain ⟨o, ho⟩ := hp
  obtain ⟨t, d, i, rfl, ht, hd, hi, rfl⟩ := gRef_inv ho
  have hx := xok_def hE
  have gc := gThrn_eq (A := A) (m := beatsOf t.1 - 1) hd
  rw [hi] at gc
  refine ws_seq (ws_drop (we_callF hx (wl_cons (we_var rfl (wl_cons (we_op ?_))))))
  refine we_methF (X := fun _ _ _ _ => False) xok0 (we_var rfl ⟨_, _, rfl, by decide, wl_nil (co_ret rfl (gBeats_eq t) ?_)⟩)
  refine we_int (rd_sub (wl_nil ?_))
  exact co_exc rfl gc ⟨ho, rfl⟩
theorem ok_degree (T : Tx P K mg A) : MetX P w K mg base 6 A.Layers "degree" (SpS K 2 (spcF (gRef A 1))) := by
  have c_Layers_next_spot := @ok_next_spot P w K mg base A T
  have c_Gates_bits := @ok_bits P w K mg base A T
  obtain ⟨f, fd, cl, me, F, bi⟩ := T.t_Layers_degree
  refine ⟨f, fd, _, cl, me, fnS F sc_Layers_degree rfl (fun cdv A' outer sh H E hr => ⟨_, (pss_cons (ps_asg (pe_mtx (pv 0) c_Layers_next_spot hr (by omega) (passes_call (takes_of rfl rfl rfl rfl) (fun _ _ _ _ z => z)) (pa_cons (pv 1) pa_nil)) (DK.pg_tup (K := K) rfl (pgs_cons (pg_name (i := 3) sc_Layers_degree.nd rfl (by first | exact .inl rfl | exact .inr rfl)) (pgs_cons (pg_name (i := 4) sc_Layers_degree.nd rfl (by first | exact .inl rfl | exact .inr rfl)) (pgs_cons (pg_name (i := 5) sc_Layers_degree.nd rfl (by first | exact .inl rfl | exact .inr rfl)) pgs_nil)))))
  (pss_cons (ps_asg (pe_mtx (DK.pe_fld (K := K) (pv 0)) c_Gates_bits hr (by omega) (passes_call (takes_of rfl rfl rfl rfl) (fun _ _ _ _ z => z)) (pa_cons (pe_op (DK.op_add (K := K)) (pv 3) pe_int) pa_nil)) (pg_name (i := 2) sc_Layers_degree.nd rfl (by first | exact .inl rfl | exact .inr rfl)))
  (pss_one (ps_ret (pe_ifExp (pt_cmpR op_ltK (pe_callB (DK.len (K := K)) (by rfl) T.z_len (by decide +kernel) (pa_cons (pv 5) pa_nil)) (pe_op op_mulK pe_int (pv 2)) (nomark _)) pe_int (pv 2)))))), fun R k0 ds b hp hl hE => ?_⟩), bi⟩
  obtain ⟨o, ho⟩ := hp
  obtain ⟨t, d, i, rfl, ht, hd, hi, rfl⟩ := gRef_inv ho
  have hx := xok_def hE
  exact ws_seq (ws_asg (we_methF hx (we_var rfl ⟨_, _, rfl, by decide, wl_cons (we_var rfl (wl_nil (co_exc rfl ho ⟨ho, rfl⟩)))⟩)))
theorem ok_coins (T : Tx P K mg A) : MetX P w K mg base 6 A.Layers "coins" (SpS K 2 (spcF (gRef A 1))) := by
  have c_Layers_next_spot := @ok_next_spot P w K mg base A T
  obtain ⟨f, fd, cl, me, F, bi⟩ := T.t_Layers_coins
  refine ⟨f, fd, _, cl, me, fnS F sc_Layers_coins rfl (fun cdv A' outer sh H E hr => ⟨_, (pss_cons (ps_expr (pe_mtx (pv 0) c_Layers_next_spot hr (by omega) (passes_call (takes_of rfl rfl rfl rfl) (fun _ _ _ _ z => z)) (pa_cons (pv 1) pa_nil)))
  (pss_one (ps_ret (pe_callTy (DK.lst (K := K)) (by rfl) T.z_list (by decide +kernel) (pa_cons (DK.pe_fld (K := K) (pv 0)) pa_nil))))), fun R k0 ds b hp hl hE => ?_⟩), bi⟩
  obtain ⟨o, ho⟩ := hp
  obtain ⟨t, d, i, rfl, ht, hd, hi, rfl⟩ := gRef_inv ho
  have hx := xok_def hE
  exact ws_seq (ws_drop (we_methF hx (we_var rfl ⟨_, _, rfl, by decide, wl_cons (we_var rfl (wl_nil (co_exc rfl ho ⟨ho, rfl⟩)))⟩)))
theorem ok_right (T : Tx P K mg A) : MetX P w K mg base 7 A.Layers "right" (SpS K 2 (spcF (gRef A 1))) := by
  have c_Layers_next_spot := @ok_next_spot P w K mg base A T
  have c_Layers_degree := @ok_degree P w K mg base A T
  have c_Gates_bits := @ok_bits P w K mg base A T
  have c_Gates_cells := @ok_cells P w K mg base A T
  have c_Poly := mak_none (P := P) (w := w) (base := base) (k := 0) (n := 3) T.i_Poly T.m_Poly sc_Poly___init__ no_spc
  have c_poly_folded := cal_none (P := P) (w := w) (base := base) (k := 0) (n := 3) T.f_poly_folded sc_poly_folded no_spc
  have c_all_corners := cal_none (P := P) (w := w) (base := base) (k := 0) (n := 1) T.f_all_corners sc_all_corners no_spc
  have c_Layers_poly_joint := met_none (P := P) (w := w) (mg := mg) (base := base) (k := 0) (n := 4) T.t_Layers_poly_joint sc_Layers_poly_joint no_spc
  have c_Poly_numbers := met_none (P := P) (w := w) (mg := mg) (base := base) (k := 0) (n := 1) T.t_Poly_numbers sc_Poly_numbers no_spc
  obtain ⟨f, fd, cl, me, F, bi⟩ := T.t_Layers_right
  refine ⟨f, fd, _, cl, me, fnS F sc_Layers_right rfl (fun cdv A' outer sh H E hr => ⟨_, (pss_cons (ps_asg (pe_mtx (pv 0) c_Layers_next_spot hr (by omega) (passes_call (takes_of rfl rfl rfl rfl) (fun _ _ _ _ z => z)) (pa_cons (pv 1) pa_nil)) (DK.pg_tup (K := K) rfl (pgs_cons (pg_name (i := 4) sc_Layers_right.nd rfl (by first | exact .inl rfl | exact .inr rfl)) (pgs_cons (pg_name (i := 5) sc_Layers_right.nd rfl (by first | exact .inl rfl | exact .inr rfl)) (pgs_cons (pg_name (i := 6) sc_Layers_right.nd rfl (by first | exact .inl rfl | exact .inr rfl)) pgs_nil)))))
  (pss_cons (ps_asg (pe_mtx (DK.pe_fld (K := K) (pv 0)) c_Gates_bits hr (by omega) (passes_call (takes_of rfl rfl rfl rfl) (fun _ _ _ _ z => z)) (pa_cons (pe_op (DK.op_add (K := K)) (pv 4) pe_int) pa_nil)) (pg_name (i := 2) sc_Layers_right.nd rfl (by first | exact .inl rfl | exact .inr rfl)))
  (pss_cons (ps_if (pt_cmpR (DK.op_eq (K := K) (hr.units)) (pe_callB (DK.len (K := K)) (by rfl) T.z_len (by decide +kernel) (pa_cons (pv 6) pa_nil)) (pe_op op_mulK pe_int (pv 2)) (nomark _))
  (pss_cons (ps_setLc (i := 7) (own := [("b", 11), ("c", 12)]) (g := (gTup K 2 (gCons (gName 11) (gCons (gName 12) gNil)))) (tt := tYes) rfl sc_Layers_right.nd rfl rfl (sw_true rfl rfl rfl (by decide +kernel)) (DK.pi_zip (K := K) (by rfl) T.z_zip (pa_cons (pe_slice (DK.sl (K := K)) (pv 6) po_none (po_some (pv 2))) (pa_cons (pe_slice (DK.sl (K := K)) (pv 6) (po_some (pv 2)) po_none) pa_nil))) (blkOk_by (own := [("b", 11), ("c", 12)]) (N := n_Layers_right) (sc := (defScope s_Layers_right)) (by first | decide +kernel | kernel_rfl)) (fun _ _ _ _ _ => (DK.pg_tup (K := K) rfl (pgs_cons (pg_name (i := 11) sc_Layers_right.nd rfl (by first | exact .inl rfl | exact .inr rfl)) (pgs_cons (pg_name (i := 12) sc_Layers_right.nd rfl (by first | exact .inl rfl | exact .inr rfl)) pgs_nil)))) (fun _ _ _ _ _ => pts_nil) (fun _ _ _ _ _ => (pe_mkx c_Poly hr (by omega) (by rfl) passL (pa_cons (DK.pe_fld (K := K) (pv 0)) (pa_cons (pe_lst (pa_cons (pv 11) (pa_cons (pe_op op_subK (pv 12) (pv 11)) pa_nil))) pa_nil)))))
  (pss_one (ps_asg (pe_cx c_poly_folded hr (by omega) (by rfl) (passes_call (takes_of rfl rfl rfl rfl) (fun _ _ _ _ z => z)) (pa_cons (pe_mtx (DK.pe_fld (K := K) (pv 0)) c_Gates_cells hr (by omega) (passes_call (takes_of rfl rfl rfl rfl) (fun _ _ _ _ z => z)) (pa_cons (pe_op (DK.op_add (K := K)) (pv 4) pe_int) pa_nil)) (pa_cons (pv 7) (pa_cons (DK.pe_fld (K := K) (pv 0)) pa_nil)))) (pg_name (i := 8) sc_Layers_right.nd rfl (by first | exact .inl rfl | exact .inr rfl)))))
  (pss_cons (ps_asg (pe_op (DK.op_add (K := K)) (pe_lc (own := [("number", 13)]) (g := (gName 13)) (tt := tYes) rfl sc_Layers_right.nd (DK.pi_seq (K := K) (pv 6)) (blkOk_by (own := [("number", 13)]) (N := n_Layers_right) (sc := (defScope s_Layers_right)) (by first | decide +kernel | kernel_rfl)) (fun _ _ _ _ _ => (pg_name (i := 13) sc_Layers_right.nd rfl (by first | exact .inl rfl | exact .inr rfl))) (fun _ _ _ _ _ => pts_nil) (fun _ _ _ _ _ => (pe_mkx c_Poly hr (by omega) (by rfl) passL (pa_cons (DK.pe_fld (K := K) (pv 0)) (pa_cons (pe_lst (pa_cons (pv 13) pa_nil)) pa_nil))))) (pe_lst (pa_cons (pe_mkx c_Poly hr (by omega) (by rfl) (passes_call (takes_of rfl rfl rfl rfl) (fun _ _ _ _ z => z)) (pa_cons (DK.pe_fld (K := K) (pv 0)) (pa_cons (pe_lst (pa_cons pe_int (pa_cons pe_int pa_nil))) pa_nil))) pa_nil))) (pg_name (i := 9) sc_Layers_right.nd rfl (by first | exact .inl rfl | exact .inr rfl)))
  (pss_cons (ps_asg (pe_mkx c_Poly hr (by omega) (by rfl) (passes_call (takes_of rfl rfl rfl rfl) (fun _ _ _ _ z => z)) (pa_cons (DK.pe_fld (K := K) (pv 0)) (pa_cons (pe_lst pa_nil) pa_nil))) (pg_name (i := 8) sc_Layers_right.nd rfl (by first | exact .inl rfl | exact .inr rfl)))
  (pss_one (ps_for (passes_of rfl) rfl (DK.pi_seq (K := K) (pe_cx c_all_corners hr (by omega) (by rfl) (passes_call (takes_of rfl rfl rfl rfl) (fun _ _ _ _ z => z)) (pa_cons (pe_op op_subK (pe_op op_mulK pe_int (pv 2)) (pe_callB (DK.len (K := K)) (by rfl) T.z_len (by decide +kernel) (pa_cons (pv 9) pa_nil))) pa_nil))) (pg_name (i := 10) sc_Layers_right.nd rfl (by first | exact .inl rfl | exact .inr rfl))
  (pss_one (ps_asg (pe_op (DK.op_add (K := K)) (pv 8) (pe_mtx (pv 0) c_Layers_poly_joint hr (by omega) (passes_call (takes_of rfl rfl rfl rfl) (fun _ _ _ _ z => z)) (pa_cons (pv 4) (pa_cons (pv 5) (pa_cons (pe_op (DK.op_add (K := K)) (pv 9) (pe_lc (own := [("bit", 14)]) (g := (gName 14)) (tt := tYes) rfl sc_Layers_right.nd (DK.pi_seq (K := K) (pv 10)) (blkOk_by (own := [("bit", 14)]) (N := n_Layers_right) (sc := (defScope s_Layers_right)) (by first | decide +kernel | kernel_rfl)) (fun _ _ _ _ _ => (pg_name (i := 14) sc_Layers_right.nd rfl (by first | exact .inl rfl | exact .inr rfl))) (fun _ _ _ _ _ => pts_nil) (fun _ _ _ _ _ => (pe_mkx c_Poly hr (by omega) (by rfl) passL (pa_cons (DK.pe_fld (K := K) (pv 0)) (pa_cons (pe_lst (pa_cons (pv 14) pa_nil)) pa_nil)))))) pa_nil))))) (pg_name (i := 8) sc_Layers_right.nd rfl (by first | exact .inl rfl | exact .inr rfl)))))))))
  (pss_cons (ps_asg (pe_mtx0 (pv 8) c_Poly_numbers hr (by omega) (passes_call (takes_of rfl rfl rfl rfl) (fun _ _ _ _ z => z))) (pg_name (i := 3) sc_Layers_right.nd rfl (by first | exact .inl rfl | exact .inr rfl)))
  (pss_one (ps_ret (pe_op (DK.op_add (K := K)) (pv 3) (pe_op op_mulK (pe_lst (pa_cons pe_int pa_nil)) (pe_op op_subK (pe_op (DK.op_add (K := K)) (pe_mtx (pv 0) c_Layers_degree hr (by omega) (passes_call (takes_of rfl rfl rfl rfl) (fun _ _ _ _ z => z)) (pa_cons (pv 1) pa_nil)) pe_int) (pe_callB (DK.len (K := K)) (by rfl) T.z_len (by decide +kernel) (pa_cons (pv 3) pa_nil))))))))))), fun R k0 ds b hp hl hE => ?_⟩), bi⟩
  obtain ⟨o, ho⟩ := hp
  obtain ⟨t, d, i, rfl, ht, hd, hi, rfl⟩ := gRef_inv ho
  have hx := xok_def hE
  exact ws_seq (ws_asg (we_methF hx (we_var rfl ⟨_, _, rfl, by decide, wl_cons (we_var rfl (wl_nil (co_exc rfl ho ⟨ho, rfl⟩)))⟩)))
theorem ok_truth (T : Tx P K mg A) : MetX P w K mg base 5 A.Layers "truth" (SpS K 2 (spcF (gRef A 0))) := by
  have c_Layers_spot := @ok_spot P w K mg base A T
  have c_Gates_bits := @ok_bits P w K mg base A T
  have c_Gates_extended := @ok_extended P w K mg base A T
  have c_all_corners := cal_none (P := P) (w := w) (base := base) (k := 0) (n := 1) T.f_all_corners sc_all_corners no_spc
  have c_Layers_joint := met_none (P := P) (w := w) (mg := mg) (base := base) (k := 0) (n := 4) T.t_Layers_joint sc_Layers_joint no_spc
  obtain ⟨f, fd, cl, me, F, bi⟩ := T.t_Layers_truth
  refine ⟨f, fd, _, cl, me, fnS F sc_Layers_truth rfl (fun cdv A' outer sh H E hr => ⟨_, (pss_cons (ps_asg (pe_mtx (pv 0) c_Layers_spot hr (by omega) (passes_call (takes_of rfl rfl rfl rfl) (fun _ _ _ _ z => z)) (pa_cons (pv 1) pa_nil)) (DK.pg_tup (K := K) rfl (pgs_cons (pg_name (i := 3) sc_Layers_truth.nd rfl (by first | exact .inl rfl | exact .inr rfl)) (pgs_cons (pg_name (i := 4) sc_Layers_truth.nd rfl (by first | exact .inl rfl | exact .inr rfl)) (pgs_cons (pg_name (i := 5) sc_Layers_truth.nd rfl (by first | exact .inl rfl | exact .inr rfl)) pgs_nil)))))
  (pss_cons (ps_if (pt_cmpR (DK.op_eq (K := K) (hr.units)) (pv 3) (pe_callB (DK.len (K := K)) (by rfl) T.z_len (by decide +kernel) (pa_cons (DK.pe_fld (K := K) (pv 0)) pa_nil)) (nomark _))
  (pss_one (ps_ret (pe_mtx (DK.pe_fld (K := K) (pv 0)) c_Gates_extended hr (by omega) (passes_call (takes_of rfl rfl rfl rfl) (fun _ _ _ _ z => z)) (pa_cons (pv 3) (pa_cons (pv 4) pa_nil)))))
  pss_nil)
  (pss_cons (ps_asg (pe_op op_subK (pe_op op_mulK pe_int (pe_mtx (DK.pe_fld (K := K) (pv 0)) c_Gates_bits hr (by omega) (passes_call (takes_of rfl rfl rfl rfl) (fun _ _ _ _ z => z)) (pa_cons (pe_op (DK.op_add (K := K)) (pv 3) pe_int) pa_nil))) (pe_callB (DK.len (K := K)) (by rfl) T.z_len (by decide +kernel) (pa_cons (pv 5) pa_nil))) (pg_name (i := 2) sc_Layers_truth.nd rfl (by first | exact .inl rfl | exact .inr rfl)))
  (pss_one (ps_ret (pe_op op_modK (pe_callB (DK.sum (K := K)) (by rfl) T.z_sum (by decide +kernel) (pa_cons (pe_lc (own := [("corner", 6)]) (g := (gName 6)) (tt := tYes) rfl sc_Layers_truth.nd (DK.pi_seq (K := K) (pe_cx c_all_corners hr (by omega) (by rfl) (passes_call (takes_of rfl rfl rfl rfl) (fun _ _ _ _ z => z)) (pa_cons (pv 2) pa_nil))) (blkOk_by (own := [("corner", 6)]) (N := n_Layers_truth) (sc := (defScope s_Layers_truth)) (by first | decide +kernel | kernel_rfl)) (fun _ _ _ _ _ => (pg_name (i := 6) sc_Layers_truth.nd rfl (by first | exact .inl rfl | exact .inr rfl))) (fun _ _ _ _ _ => pts_nil) (fun _ _ _ _ _ => (pe_mtx (pv 0) c_Layers_joint hr (by omega) passL (pa_cons (pv 3) (pa_cons (pv 4) (pa_cons (pe_op (DK.op_add (K := K)) (pv 5) (pe_callTy (DK.lst (K := K)) (by rfl) T.z_list (by decide +kernel) (pa_cons (pv 6) pa_nil))) pa_nil)))))) pa_nil)) (DK.pe_fld (K := K) (pv 0)))))))), fun R k0 ds b hp hl hE => ?_⟩), bi⟩
  obtain ⟨o, ho⟩ := hp
  obtain ⟨t, d, i, rfl, ht, hd, hi, rfl⟩ := gRef_inv ho
  have hx := xok_def hE
  have gs := gSpot_eq (A := A) ht hd
  rw [Int.sub_zero] at hi
  rw [hi] at gs
  exact ws_seq (ws_asg (we_methF hx (we_var rfl ⟨_, _, rfl, by decide, wl_cons (we_var rfl (wl_nil (co_exc rfl gs ⟨ho, rfl⟩)))⟩)))
noncomputable def gRefC (A : Ad) : List D → Option Out := gOf (fun z : (Tk × D) × D => [tkD A z.1.1, z.1.2, z.2]) (fun z => tkOk z.1.1 ∧ okO z.1.2 = true ∧ (thrI z.1.2 (beatsOf z.1.1.1 - 1)).isSome = true) fun z => .exc A.BadThrown ["index"] [.int ((thrI z.1.2 (beatsOf z.1.1.1 - 1)).getD 0)]
theorem tde_inj {A : Ad} (x y : (Tk × D) × D) (e : [tkD A x.1.1, x.1.2, x.2] = [tkD A y.1.1, y.1.2, y.2]) : x = y := by
  injection e with e1 e
  injection e with e2 e
  injection e with e3 _
  exact Prod.ext (Prod.ext (tk_inj e1) e2) e3
theorem gRefC_eq {A : Ad} {t : Tk} {d m : D} {i : Int} (h0 : tkOk t) (h : okO d = true) (h2 : thrI d (beatsOf t.1 - 1) = some i) : gRefC A [tkD A t, d, m] = some (.exc A.BadThrown ["index"] [.int i]) := by
  have e := gOf_eq (ar := fun z : (Tk × D) × D => [tkD A z.1.1, z.1.2, z.2]) (ok := fun z => tkOk z.1.1 ∧ okO z.1.2 = true ∧ (thrI z.1.2 (beatsOf z.1.1.1 - 1)).isSome = true) (res := fun z => .exc A.BadThrown ["index"] [.int ((thrI z.1.2 (beatsOf z.1.1.1 - 1)).getD 0)]) (x := ((t, d), m)) tde_inj ⟨h0, h, by dsimp only; rw [h2]; rfl⟩
  dsimp only at e
  rw [h2] at e
  exact e
theorem ok_claims (T : Tx P K mg A) : MetX P w K mg base 7 A.Layers "claims" (SpS K 3 (spcF (gRefC A))) := by
  have c_Layers_next_spot := @ok_next_spot P w K mg base A T
  have c_Layers_degree := @ok_degree P w K mg base A T
  have c_first_odd := @ok_first_odd P w K mg base A T
  have c_Gates_bits := @ok_bits P w K mg base A T
  have c_worth_at := cal_none (P := P) (w := w) (base := base) (k := 0) (n := 3) T.f_worth_at sc_worth_at no_spc
  have c_Layers_weights := met_none (P := P) (w := w) (mg := mg) (base := base) (k := 0) (n := 4) T.t_Layers_weights sc_Layers_weights no_spc
  obtain ⟨f, fd, cl, me, F, bi⟩ := T.t_Layers_claims
  refine ⟨f, fd, _, cl, me, fnS F sc_Layers_claims rfl (fun cdv A' outer sh H E hr => ⟨_, (pss_cons (ps_asg (pe_mtx (pv 0) c_Layers_next_spot hr (by omega) (passes_call (takes_of rfl rfl rfl rfl) (fun _ _ _ _ z => z)) (pa_cons (pv 1) pa_nil)) (DK.pg_tup (K := K) rfl (pgs_cons (pg_name (i := 3) sc_Layers_claims.nd rfl (by first | exact .inl rfl | exact .inr rfl)) (pgs_cons (pg_name (i := 4) sc_Layers_claims.nd rfl (by first | exact .inl rfl | exact .inr rfl)) (pgs_cons (pg_name (i := 5) sc_Layers_claims.nd rfl (by first | exact .inl rfl | exact .inr rfl)) pgs_nil)))))
  (pss_cons (ps_if (PW.pt (pw_or (pt_cmpR op_isnotK (pe_cx c_first_odd hr (by omega) (by rfl) (passes_call (takes_of rfl rfl rfl rfl) (fun _ _ _ _ z => z)) (pa_cons (pv 2) pa_nil)) pe_non (nomark _)) (pw_or1 (pt_cmpR (DK.op_ne (K := K) (hr.units)) (pe_callB (DK.len (K := K)) (by rfl) T.z_len (by decide +kernel) (pa_cons (pv 2) pa_nil)) (pe_op (DK.op_add (K := K)) (pe_mtx (pv 0) c_Layers_degree hr (by omega) (passes_call (takes_of rfl rfl rfl rfl) (fun _ _ _ _ z => z)) (pa_cons (pv 1) pa_nil)) pe_int) (nomark _)))))
  (pss_one (ps_ret (pe_lst pa_nil)))
  pss_nil)
  (pss_cons (ps_par (by rfl) sc_Layers_claims.nd (i := 6) (j := 7) rfl rfl (by decide) rfl rfl (pa_cons (pe_cx c_worth_at hr (by omega) (by rfl) (passes_call (takes_of rfl rfl rfl rfl) (fun _ _ _ _ z => z)) (pa_cons (pe_callTy (DK.lst (K := K)) (by rfl) T.z_list (by decide +kernel) (pa_cons (pv 2) pa_nil)) (pa_cons pe_int (pa_cons (DK.pe_fld (K := K) (pv 0)) pa_nil)))) (pa_cons (pe_cx c_worth_at hr (by omega) (by rfl) (passes_call (takes_of rfl rfl rfl rfl) (fun _ _ _ _ z => z)) (pa_cons (pe_callTy (DK.lst (K := K)) (by rfl) T.z_list (by decide +kernel) (pa_cons (pv 2) pa_nil)) (pa_cons pe_int (pa_cons (DK.pe_fld (K := K) (pv 0)) pa_nil)))) pa_nil)) (by rfl))
  (pss_cons (ps_if (pt_cmpR op_ltK (pe_callB (DK.len (K := K)) (by rfl) T.z_len (by decide +kernel) (pa_cons (pv 5) pa_nil)) (pe_op op_mulK pe_int (pe_mtx (DK.pe_fld (K := K) (pv 0)) c_Gates_bits hr (by omega) (passes_call (takes_of rfl rfl rfl rfl) (fun _ _ _ _ z => z)) (pa_cons (pe_op (DK.op_add (K := K)) (pv 3) pe_int) pa_nil))) (nomark _))
  (pss_one (ps_ret (pe_lst (pa_cons (pe_op op_modK (pe_op (DK.op_add (K := K)) (pv 6) (pv 7)) (DK.pe_fld (K := K) (pv 0))) pa_nil))))
  pss_nil)
  (pss_cons (ps_asg (pe_mtx (pv 0) c_Layers_weights hr (by omega) (passes_call (takes_of rfl rfl rfl rfl) (fun _ _ _ _ z => z)) (pa_cons (pv 3) (pa_cons (pv 4) (pa_cons (pv 5) pa_nil)))) (DK.pg_tup (K := K) rfl (pgs_cons (pg_name (i := 8) sc_Layers_claims.nd rfl (by first | exact .inl rfl | exact .inr rfl)) (pgs_cons (pg_name (i := 9) sc_Layers_claims.nd rfl (by first | exact .inl rfl | exact .inr rfl)) pgs_nil))))
  (pss_one (ps_ret (pe_lst (pa_cons (pe_op op_modK (pe_op (DK.op_add (K := K)) (pe_op op_mulK (pv 8) (pe_op (DK.op_add (K := K)) (pv 6) (pv 7))) (pe_op op_mulK (pe_op op_mulK (pv 9) (pv 6)) (pv 7))) (DK.pe_fld (K := K) (pv 0))) pa_nil))))))))), fun R k0 ds b hp hl hE => ?_⟩), bi⟩
  obtain ⟨o, ho⟩ := hp
  obtain ⟨⟨⟨t, d⟩, m⟩, rfl, ⟨ht, hd, hi⟩, rfl⟩ := gOf_inv ho
  have hx := xok_def hE
  obtain ⟨i, hi⟩ := Option.isSome_iff_exists.mp hi
  dsimp only at ht hd hi ho ⊢
  rw [hi] at ho
  have gs := gRef_eq (A := A) ht hd hi
  exact ws_seq (ws_asg (we_methF hx (we_var rfl ⟨_, _, rfl, by decide, wl_cons (we_var rfl (wl_nil (co_exc rfl gs ⟨ho, rfl⟩)))⟩)))
def endO (A : Ad) (t : Tk) (d m : D) : Out := match thrI d (beatsOf t.1) with
  | some i => .exc A.BadThrown ["index"] [.int i]
  | none => if (spotOf t d).1 < t.1.2.1.length then .exc A.BadThrown ["index"] [.int ((itemsD d).length : Int)] else .exc A.BadNumber ["number"] [m]
noncomputable def gEnds (A : Ad) : List D → Option Out := gOf (fun z : (Tk × D) × D => [tkD A z.1.1, z.1.2, z.2]) (fun z => tkOk z.1.1 ∧ okO z.1.2 = true ∧ (tyN z.2).isSome = true ∧ isIntD z.2 = false) fun z => endO A z.1.1 z.1.2 z.2
theorem gEnds_eq {A : Ad} {t : Tk} {d m : D} (h0 : tkOk t) (h : okO d = true) (h2 : (tyN m).isSome = true) (h3 : isIntD m = false) : gEnds A [tkD A t, d, m] = some (endO A t d m) :=
  gOf_eq (ar := fun z : (Tk × D) × D => [tkD A z.1.1, z.1.2, z.2]) (x := ((t, d), m)) tde_inj ⟨h0, h, h2, h3⟩
theorem ok_ends (T : Tx P K mg A) : MetX P w K mg base 5 A.Layers "ends" (SpS K 3 (spcF (gEnds A))) := by
  have c_Layers_spot := @ok_spot P w K mg base A T
  have c_check_number := @ok_check_number P w K mg base A T
  have c_Gates_extended := @ok_extended P w K mg base A T
  obtain ⟨f, fd, cl, me, F, bi⟩ := T.t_Layers_ends
  refine ⟨f, fd, _, cl, me, fnS F sc_Layers_ends rfl (fun cdv A' outer sh H E hr => ⟨_, (pss_cons (ps_asg (pe_mtx (pv 0) c_Layers_spot hr (by omega) (passes_call (takes_of rfl rfl rfl rfl) (fun _ _ _ _ z => z)) (pa_cons (pv 1) pa_nil)) (DK.pg_tup (K := K) rfl (pgs_cons (pg_name (i := 3) sc_Layers_ends.nd rfl (by first | exact .inl rfl | exact .inr rfl)) (pgs_cons (pg_name (i := 4) sc_Layers_ends.nd rfl (by first | exact .inl rfl | exact .inr rfl)) (pgs_cons (pg_name (i := 5) sc_Layers_ends.nd rfl (by first | exact .inl rfl | exact .inr rfl)) pgs_nil)))))
  (pss_cons (ps_if (pt_cmpR op_ltK (pv 3) (pe_callB (DK.len (K := K)) (by rfl) T.z_len (by decide +kernel) (pa_cons (DK.pe_fld (K := K) (pv 0)) pa_nil)) (nomark _))
  (pss_one (DX.ps_rs (takes_of rfl rfl rfl rfl) T.x_BadThrown (by decide) (by decide) hr (pa_cons (pe_callB (DK.len (K := K)) (by rfl) T.z_len (by decide +kernel) (pa_cons (pv 1) pa_nil)) pa_nil)))
  pss_nil)
  (pss_cons (ps_expr (pe_cx c_check_number hr (by omega) (by rfl) (passes_call (takes_of rfl rfl rfl rfl) (fun _ _ _ _ z => z)) (pa_cons (pv 2) pa_nil)))
  (pss_one (ps_ret (pe_cmpR (DK.op_eq (K := K) (hr.units)) (pe_mtx (DK.pe_fld (K := K) (pv 0)) c_Gates_extended hr (by omega) (passes_call (takes_of rfl rfl rfl rfl) (fun _ _ _ _ z => z)) (pa_cons (pv 3) (pa_cons (pv 4) pa_nil))) (pe_op op_modK (pv 2) (DK.pe_fld (K := K) (pv 0))) (nomark _))))))), fun R k0 ds b hp hl hE => ?_⟩), bi⟩
  obtain ⟨o, ho⟩ := hp
  obtain ⟨⟨⟨t, d⟩, m⟩, rfl, ⟨ht, hd, hm, hm2⟩, rfl⟩ := gOf_inv ho
  have hx := xok_def hE
  have hX := xokW hx
  dsimp only at ht hd hm hm2 ho ⊢
  unfold endO at ho
  have gs := gSpot_eq (A := A) ht hd
  cases hi : thrI d (beatsOf t.1) with
  | some i =>
    rw [hi] at gs ho
    exact ws_seq (ws_asg (we_methF hx (we_var rfl ⟨_, _, rfl, by decide, wl_cons (we_var rfl (wl_nil (co_exc rfl gs ⟨ho, rfl⟩)))⟩)))
  | none =>
    rw [hi] at gs ho
    dsimp only at gs ho
    obtain ⟨xs, lx, sq, ej, _⟩ := thrI_none hd hi
    have ei : (itemsD d).length = xs.length := by
      have e : itemsD d = xs.map D.int := by cases d <;> cases sq <;> rfl
      rw [e, List.length_map]
    rw [ei] at ho
    generalize spotOf t d = q at gs ho
    obtain ⟨k, pl, own⟩ := q
    dsimp only at ho
    refine ws_seq (ws_asg (we_methF (X := fun _ _ _ _ => False) xok0 (we_var rfl ⟨_, _, rfl, by decide, wl_cons (we_var rfl (wl_nil (co_ret rfl gs ?_)))⟩)))
    refine wg_tup rfl ?_
    repeat (walk_at "s1")
    dsimp only [List.set]
    refine rc_lenI ?_
    rw [szOf_len]
    repeat (walk_at "s1")
    refine ⟨fun hz => ?_, fun hz => ?_⟩
    · have hz : (k : Int) < (t.1.2.1.length : Int) := of_decide_eq_true hz
      rw [if_pos (by omega)] at ho
      repeat (walk_at "s1")
      refine rc_len sq ?_
      rw [List.length_map]
      exact wl_nil ⟨rfl, ho, rfl⟩
    · have hz : ¬ (k : Int) < (t.1.2.1.length : Int) := of_decide_eq_false hz
      rw [if_neg (by omega)] at ho
      have gn : gNum A [m] = some (.exc A.BadNumber ["number"] [m]) := by
        cases m <;> first | rfl | (cases hm; done) | (cases hm2; done)
      refine ws_next ?_
      refine ws_seq (ws_drop (we_callF hx (wl_cons (we_var rfl (wl_nil (co_exc rfl gn ⟨ho, rfl⟩))))))
end
end K54

set_option Elab.async false
set_option linter.all false
set_option maxRecDepth 100000
set_option maxHeartbeats 4000000
namespace K54
open PySem PySem.Spec PyProof.Rows L2 DL
/-! what is refused of a net, what is not -/
def lsD (rs : List (List Gt)) : List D := rs.map fun gs => D.lst (gs.map tD)
theorem gtD_tD (g : Gt) : gtD (tD g) = g := rfl
theorem gtsL_ls (rs : List (List Gt)) : gtsL (lsD rs) = rs := by
  unfold gtsL lsD
  rw [List.map_map]
  have e : ((fun d => (itemsD d).map gtD) ∘ fun gs : List Gt => D.lst (gs.map tD)) = id := by
    funext gs
    show (gs.map tD).map gtD = gs
    rw [List.map_map]
    exact (List.map_congr_left fun g _ => gtD_tD g).trans (List.map_id' gs)
  rw [e, List.map_id]
theorem deed_ok {g : Gt} (h : deedG g) : deedOk (.str g.1) = true := by
  rcases h with h | h <;> rw [h] <;> rfl
theorem gateOk_tD {g : Gt} {n : Nat} (h1 : deedG g) (h2 : gtOk n g) : gateOk (n : Int) (tD g) = true := by
  show (deedOk (.str g.1) && ((decide (0 ≤ g.2.1) && decide (g.2.1 < (n : Int))) && (decide (0 ≤ g.2.2) && decide (g.2.2 < (n : Int))))) = true
  rw [deed_ok h1, decide_eq_true h2.1.1, decide_eq_true h2.1.2, decide_eq_true h2.2.1, decide_eq_true h2.2.2]
  rfl
theorem oddAt_none {f : D → Bool} : ∀ {l : List D} {i : Nat}, (∀ d ∈ l, f d = true) → oddAt f l i = none
  | [], _, _ => rfl
  | d :: l, i, h => (if_pos (h d List.mem_cons_self)).trans (oddAt_none fun e he => h e (List.mem_cons_of_mem _ he))
theorem oddAt_app {f : D → Bool} {o : D} {r : List D} (ho : f o = false) : ∀ {l : List D} {i : Nat}, (∀ d ∈ l, f d = true) → oddAt f (l ++ o :: r) i = some (i + l.length)
  | [], i, _ => (if_neg (by rw [ho]; exact Bool.false_ne_true)).trans rfl
  | d :: l, i, h => by
    have z : oddAt f ((d :: l) ++ o :: r) i = oddAt f (l ++ o :: r) (i + 1) := if_pos (h d List.mem_cons_self)
    rw [z, oddAt_app ho fun e he => h e (List.mem_cons_of_mem _ he), List.length_cons]
    congr 1
    omega
theorem badG_none {sz : List Int} : ∀ {l : List D} {i : Nat}, (∀ (j : Nat) (d : D), l[j]? = some d → oddAt (gateOk (sz.getD (i + j + 1) 0)) (itemsD d) 0 = none) → badG sz l i = none
  | [], _, _ => rfl
  | d :: l, i, h => by
    have h0 : oddAt (gateOk (sz.getD (i + 1) 0)) (itemsD d) 0 = none := h 0 d rfl
    show (match oddAt (gateOk (sz.getD (i + 1) 0)) (itemsD d) 0 with | some j => some (i, j) | none => badG sz l (i + 1)) = none
    rw [h0]
    refine badG_none fun j e he => ?_
    have z := h (j + 1) e (by simpa using he)
    have e2 : i + 1 + j + 1 = i + (j + 1) + 1 := by omega
    rw [e2]
    exact z
theorem badG_app {sz : List Int} {d : D} {r : List D} {k : Nat} : ∀ {l : List D} {i : Nat}, (∀ (j : Nat) (d : D), l[j]? = some d → oddAt (gateOk (sz.getD (i + j + 1) 0)) (itemsD d) 0 = none) → oddAt (gateOk (sz.getD (i + l.length + 1) 0)) (itemsD d) 0 = some k → badG sz (l ++ d :: r) i = some (i + l.length, k)
  | [], i, _, hk => by
    show (match oddAt (gateOk (sz.getD (i + 1) 0)) (itemsD d) 0 with | some j => some (i, j) | none => badG sz r (i + 1)) = _
    rw [show oddAt (gateOk (sz.getD (i + 1) 0)) (itemsD d) 0 = some k from hk]
    rfl
  | e :: l, i, h, hk => by
    have h0 : oddAt (gateOk (sz.getD (i + 1) 0)) (itemsD e) 0 = none := h 0 e rfl
    show (match oddAt (gateOk (sz.getD (i + 1) 0)) (itemsD e) 0 with | some j => some (i, j) | none => badG sz (l ++ d :: r) (i + 1)) = _
    rw [h0]
    dsimp only
    have e3 : i + 1 + l.length = i + (e :: l).length := by rw [List.length_cons]; omega
    rw [badG_app (fun j e he => ?_) (by rw [e3]; exact hk), e3]
    have z := h (j + 1) e (by simpa using he)
    have e2 : i + 1 + j + 1 = i + (j + 1) + 1 := by omega
    rw [e2]
    exact z
theorem lsD_ok {rs : List (List Gt)} {inp : List Int} (h : planOk rs inp) : (∀ d ∈ lsD rs, layOk d = true) ∧ ((lsD rs).all layT) = true ∧ (lsD rs).length = rs.length := by
  refine ⟨fun d hd => ?_, List.all_eq_true.mpr fun d hd => ?_, by unfold lsD; rw [List.length_map]⟩
  · obtain ⟨gs, hg, rfl⟩ := List.mem_map.mp hd
    show (true && lenOk (gs.map tD).length) = true
    rw [List.length_map, h.lay gs hg]
    rfl
  · obtain ⟨gs, hg, rfl⟩ := List.mem_map.mp hd
    have := lenOk_le (h.lay gs hg)
    show (decide ((gs.map tD).length ≤ 100) && (gs.map tD).all okO) = true
    rw [List.length_map, decide_eq_true (by omega), Bool.true_and]
    refine List.all_eq_true.mpr fun d hd => ?_
    obtain ⟨g, _, rfl⟩ := List.mem_map.mp hd
    rfl
theorem inp_ok {inp : List Int} (h : inp.length ≤ 1000) : okO (iL inp) = true ∧ isNon (oddD (iL inp)) = true ∧ intsD (iL inp) = inp := by
  refine ⟨?_, ?_, ?_⟩
  · show (decide ((inp.map D.int).length ≤ 1000) && typed (inp.map D.int)) = true
    rw [List.length_map, decide_eq_true h, Bool.true_and]
    refine List.all_eq_true.mpr fun d hd => ?_
    obtain ⟨x, _, rfl⟩ := List.mem_map.mp hd
    rfl
  · show isNon (oddO (oddI (inp.map D.int) 0)) = true
    rw [oddI_ints]
    rfl
  · show (inp.map D.int).map dI = inp
    rw [List.map_map]
    exact (List.map_congr_left fun _ _ => rfl).trans (List.map_id' inp)
theorem sz_next {rs : List (List Gt)} {inp : List Int} {i : Nat} (hi : i < rs.length) : (szL (lsD rs) (iL inp)).getD (i + 1) 0 = (nextLen rs inp i : Nat) := by
  have hi2 : i < (lsD rs).length := by unfold lsD; rw [List.length_map]; exact hi
  rw [sz_get hi2, gtsL_ls]
  show ((((rs.drop (i + 1)).head?.map List.length).getD (inp.map D.int).length : Nat) : Int) = _
  rw [List.length_map]
  rfl
theorem ls_get {rs : List (List Gt)} {j : Nat} {d : D} (h : (lsD rs)[j]? = some d) : ∃ gs, rs[j]? = some gs ∧ d = .lst (gs.map tD) := by
  unfold lsD at h
  rw [List.getElem?_map] at h
  cases e : rs[j]? with
  | none => rw [e] at h; cases h
  | some gs => rw [e] at h; cases h; exact ⟨gs, rfl, rfl⟩
theorem row_none {rs : List (List Gt)} {inp : List Int} (h : planOk rs inp) {j : Nat} {d : D} (hd : (lsD rs)[j]? = some d) : oddAt (gateOk ((szL (lsD rs) (iL inp)).getD (j + 1) 0)) (itemsD d) 0 = none := by
  obtain ⟨gs, hg, rfl⟩ := ls_get hd
  rw [sz_next (List.getElem?_eq_some_iff.mp hg).1]
  refine oddAt_none fun e he => ?_
  have he : e ∈ gs.map tD := he
  obtain ⟨g, hg2, rfl⟩ := List.mem_map.mp he
  obtain ⟨h1, h2⟩ := h.gts j gs hg g hg2
  exact gateOk_tD h1 h2
theorem gates_dom {A : Ad} {p : Int} {ls : List D} {I : D} (h1 : ls.length ≤ 20) (h2 : ls.all layT = true) (h3 : okO I = true) : gGates A [.int p, .lst ls, I] = some (gGatesB A (.int p) (.lst ls) I) := by
  refine if_pos ?_
  show (true && ((decide (ls.length ≤ 20) && ls.all layT) && okO I)) = true
  rw [decide_eq_true h1, h2, h3]
  rfl
theorem gates_open {A : Ad} {p : Int} {ls : List D} {I : D} (hp : isPrm p = true) (hne : ls ≠ []) : gGatesB A (.int p) (.lst ls) I = match oddAt layOk ls 0 with
      | some i => .exc A.BadLayer ["index"] [.int (i : Nat)]
      | none => if (isNon (oddD I) && lenOk (itemsD I).length) = true then (match badG (szL ls I) ls 0 with
        | some ij => .exc A.BadGate ["layer", "index"] [.int (ij.1 : Nat), .int (ij.2 : Nat)]
        | none => .ok ["prime", "rows", "worths"] [.int p, rowsD (gtsL ls), worD (worL p ((intsD I).map fun x => x % p) (gtsL ls))]) else .exc A.BadInputs ["inputs"] [I] := by
  have e : ls.isEmpty = false := by
    cases ls with
    | nil => exact absurd rfl hne
    | cons x l => rfl
  unfold gGatesB
  dsimp only
  rw [if_pos hp, e]
  rfl
theorem net_made {A : Ad} {p : Int} {rs : List (List Gt)} {inp : List Int} (hp : isPrm p = true) (h : planOk rs inp) : gGates A [.int p, rowsD rs, iL inp] = some (.ok ["prime", "rows", "worths"] [.int p, rowsD rs, worD (worL p (inp.map fun x => x % p) rs)]) ∧ netOk rs (worL p (inp.map fun x => x % p) rs) := by
  obtain ⟨l1, l2, l3⟩ := lsD_ok h
  have hl := h.len
  have hli := lenOk_le h.li
  obtain ⟨i1, i2, i3⟩ := inp_ok (inp := inp) (by omega)
  have e0 : rowsD rs = .lst (lsD rs) := rfl
  constructor
  · rw [e0, gates_dom (by omega) l2 i1, gates_open hp (fun z => by rw [z] at l3; simp at l3; omega), oddAt_none l1]
    dsimp only
    have e1 : (isNon (oddD (iL inp)) && lenOk (itemsD (iL inp)).length) = true := by
      rw [i2]
      show (true && lenOk (inp.map D.int).length) = true
      rw [List.length_map, h.li]
      rfl
    rw [if_pos e1, badG_none fun j d hd => by rw [Nat.zero_add]; exact row_none h hd]
    dsimp only
    rw [gtsL_ls, i3]
    rfl
  · have all : ∀ (rs : List (List Gt)), (∀ gs ∈ rs, lenOk gs.length = true) → ∀ w ∈ worL p (inp.map fun x => x % p) rs, lenOk w.length = true := fun rs => by
      induction rs with
      | nil =>
        intro _ w hw
        rw [List.mem_singleton.mp hw, List.length_map]
        exact h.li
      | cons gs l ih =>
        intro hl w hw
        rcases List.mem_cons.mp hw with rfl | hw
        · rw [List.length_map]
          exact hl gs List.mem_cons_self
        · exact ih (fun g hg => hl g (List.mem_cons_of_mem _ hg)) w hw
    exact ⟨worL_length rs, all rs h.lay, by omega⟩
theorem bad_layer {A : Ad} {p : Int} {rs : List (List Gt)} {inp : List Int} {o : D} {k : Nat} (hp : isPrm p = true) (h : planOk rs inp) (hk : k ≤ rs.length) (ho : layOk o = false) (ht : layT o = true) :
    gGates A [.int p, .lst ((lsD rs).take k ++ [o] ++ [.non] ++ (lsD rs).drop k), .non] = some (.exc A.BadLayer ["index"] [.int (k : Nat)]) := by
  obtain ⟨l1, l2, l3⟩ := lsD_ok h
  have hl := h.len
  have ea : (lsD rs).take k ++ [o] ++ [D.non] ++ (lsD rs).drop k = (lsD rs).take k ++ o :: (.non :: (lsD rs).drop k) := by simp
  have el : ((lsD rs).take k).length = k := by rw [List.length_take]; omega
  rw [ea, gates_dom (by rw [List.length_append, List.length_cons, List.length_cons, el, List.length_drop]; omega) (by
    have z := List.all_eq_true.mp l2
    refine List.all_eq_true.mpr fun d hd => ?_
    rcases List.mem_append.mp hd with hd | hd
    · exact z d (List.mem_of_mem_take hd)
    · rcases List.mem_cons.mp hd with rfl | hd
      · exact ht
      · rcases List.mem_cons.mp hd with rfl | hd
        · rfl
        · exact z d (List.mem_of_mem_drop hd)) rfl, gates_open hp (by simp), oddAt_app ho fun d hd => l1 d (List.mem_of_mem_take hd), el, Nat.zero_add]
theorem bad_layers {A : Ad} {p : Int} (hp : isPrm p = true) {o : D} (h : o ∈ [D.non, .int 5, .str "ab", .dct [] [], .bl true, .lst []]) : gGates A [.int p, o, .non] = some (.exc A.BadLayer ["index"] [.int 0]) := by
  simp only [List.mem_cons, List.not_mem_nil, or_false] at h
  have e : ∀ {o : D}, domL o = true → isLst o = false → gGates A [.int p, o, .non] = some (.exc A.BadLayer ["index"] [.int 0]) := fun {o} k i => by
    have z : gGates A [.int p, o, .non] = some (gGatesB A (.int p) o .non) := if_pos (by rw [k]; rfl)
    rw [z]
    unfold gGatesB
    dsimp only
    rw [if_pos hp]
    cases o <;> first | (cases i; done) | rfl
  rcases h with rfl | rfl | rfl | rfl | rfl | rfl
  · exact e rfl rfl
  · exact e rfl rfl
  · exact e rfl rfl
  · exact e rfl rfl
  · exact e rfl rfl
  · have z : gGates A [.int p, .lst [], .non] = some (gGatesB A (.int p) (.lst []) .non) := rfl
    rw [z]
    unfold gGatesB
    dsimp only
    rw [if_pos hp]
    rfl
theorem bad_inputs {A : Ad} {p : Int} {rs : List (List Gt)} {inp : List Int} {o : D} (hp : isPrm p = true) (h : planOk rs inp) (ho : (isNon (oddD o) && lenOk (itemsD o).length) = false) (ht : okO o = true) :
    gGates A [.int p, .lst (lsD rs ++ [.lst [.non]]), o] = some (.exc A.BadInputs ["inputs"] [o]) := by
  obtain ⟨l1, l2, l3⟩ := lsD_ok h
  have hl := h.len
  rw [gates_dom (by rw [List.length_append]; show _ + 1 ≤ 20; omega) (by rw [List.all_append, l2]; rfl) ht, gates_open hp (by simp), oddAt_none fun d hd => ?_]
  · dsimp only
    rw [if_neg (by rw [ho]; exact Bool.false_ne_true)]
  · rcases List.mem_append.mp hd with hd | hd
    · exact l1 d hd
    · rw [List.mem_singleton.mp hd]
      rfl
theorem bad_gate {A : Ad} {p : Int} {rs : List (List Gt)} {inp : List Int} {i j : Nat} {gs : List Gt} {o : D} {r : List D} (hp : isPrm p = true) (h : planOk rs inp) (hi : rs[i]? = some gs) (hj : j < gs.length) (hr : j + 1 + r.length = gs.length)
    (ho : gateOk (nextLen rs inp i : Nat) o = false) (ht : okO o = true) (hr2 : r.all okO = true) :
    gGates A [.int p, .lst ((lsD rs).take i ++ [.lst ((gs.take j).map tD ++ o :: r)] ++ (lsD rs).drop (i + 1)), iL inp] = some (.exc A.BadGate ["layer", "index"] [.int (i : Nat), .int (j : Nat)]) := by
  obtain ⟨l1, l2, l3⟩ := lsD_ok h
  have hl := h.len
  have hli := lenOk_le h.li
  obtain ⟨i1, i2, i3⟩ := inp_ok (inp := inp) (by omega)
  have il := (List.getElem?_eq_some_iff.mp hi).1
  have hgl := h.lay gs (List.mem_of_getElem? hi)
  have hgl2 := lenOk_le hgl
  have ej : (gs.take j).length = j := by rw [List.length_take]; omega
  have er : ((gs.take j).map tD ++ o :: r).length = gs.length := by rw [List.length_append, List.length_map, ej, List.length_cons]; omega
  have ei : ((lsD rs).take i).length = i := by rw [List.length_take]; omega
  have ea : (lsD rs).take i ++ [D.lst ((gs.take j).map tD ++ o :: r)] ++ (lsD rs).drop (i + 1) = (lsD rs).take i ++ D.lst ((gs.take j).map tD ++ o :: r) :: (lsD rs).drop (i + 1) := by simp
  have ez : lsD rs = (lsD rs).take i ++ D.lst (gs.map tD) :: (lsD rs).drop (i + 1) := by
    have il2 : i < (lsD rs).length := by omega
    have e1 : (lsD rs)[i] = D.lst (gs.map tD) := by
      have z : (lsD rs)[i]? = some (D.lst (gs.map tD)) := by
        unfold lsD
        rw [List.getElem?_map, hi]
        rfl
      exact Option.some.inj (by rw [← List.getElem?_eq_getElem il2]; exact z)
    rw [← e1, ← List.drop_eq_getElem_cons il2, List.take_append_drop]
  have hsz : szL ((lsD rs).take i ++ D.lst ((gs.take j).map tD ++ o :: r) :: (lsD rs).drop (i + 1)) (iL inp) = szL (lsD rs) (iL inp) := by
    conv => rhs; rw [ez]
    unfold szL
    rw [List.map_append, List.map_append, List.map_cons, List.map_cons]
    have e2 : lenI (D.lst ((gs.take j).map tD ++ o :: r)) = lenI (D.lst (gs.map tD)) := by
      show ((((gs.take j).map tD ++ o :: r).length : Nat) : Int) = ((gs.map tD).length : Nat)
      rw [er, List.length_map]
    rw [e2]
  have z := List.all_eq_true.mp l2
  rw [ea, gates_dom (by rw [List.length_append, List.length_cons, ei, List.length_drop]; omega) (by
    refine List.all_eq_true.mpr fun d hd => ?_
    rcases List.mem_append.mp hd with hd | hd
    · exact z d (List.mem_of_mem_take hd)
    · rcases List.mem_cons.mp hd with rfl | hd
      · show (decide (_ ≤ 100) && _) = true
        rw [er, decide_eq_true (by omega), Bool.true_and, List.all_append, List.all_cons, ht, hr2]
        have y : ((gs.take j).map tD).all okO = true := List.all_eq_true.mpr fun d hd => by
          obtain ⟨g, _, rfl⟩ := List.mem_map.mp hd
          rfl
        rw [y]
        rfl
      · exact z d (List.mem_of_mem_drop hd)) i1, gates_open hp (by simp), oddAt_none fun d hd => ?_]
  · dsimp only
    have e1 : (isNon (oddD (iL inp)) && lenOk (itemsD (iL inp)).length) = true := by
      rw [i2]
      show (true && lenOk (inp.map D.int).length) = true
      rw [List.length_map, h.li]
      rfl
    rw [if_pos e1, hsz, badG_app (k := j) (fun m d hd => ?_) ?_, Nat.zero_add, ei]
    · rw [ei, Nat.zero_add, sz_next il]
      show oddAt _ ((gs.take j).map tD ++ o :: r) 0 = some j
      rw [oddAt_app ho fun d hd => ?_, List.length_map, ej, Nat.zero_add]
      obtain ⟨g, hg, rfl⟩ := List.mem_map.mp hd
      obtain ⟨h1, h2⟩ := h.gts i gs hi g (List.mem_of_mem_take hg)
      exact gateOk_tD h1 h2
    · rw [Nat.zero_add]
      have : m < i := by
        have := (List.getElem?_eq_some_iff.mp hd).1
        omega
      rw [List.getElem?_take_of_lt this] at hd
      exact row_none h hd
  · rcases List.mem_append.mp hd with hd | hd
    · exact l1 d (List.mem_of_mem_take hd)
    · rcases List.mem_cons.mp hd with rfl | hd
      · show (true && lenOk _) = true
        rw [show (itemsD (D.lst ((gs.take j).map tD ++ o :: r))).length = gs.length from er, hgl]
        rfl
      · exact l1 d (List.mem_of_mem_drop hd)
end K54

set_option Elab.async false
set_option linter.all false
set_option maxRecDepth 100000
set_option maxHeartbeats 4000000
namespace K54
open PySem PySem.Spec PyProof.Rows L2 DL
section
variable {P : Program} {w : World} {K : PySem.W.Frag} {mg : Str → Option Value} {base : Heap} {A : Ad}
local macro_rules | `(tactic| walk_at "s0") => `(tactic| with_reducible first
  | refine ws_seq ?_ | refine ws_next ?_ | refine ws_ret ?_ | refine ws_retN ?_ | refine ws_if ?_ | refine ws_asg ?_ | refine ws_drop ?_ | refine ws_par ?_ | refine ws_break ?_ | refine ws_cont ?_
  | refine we_var rfl ?_ | refine we_int ?_ | refine we_non ?_ | refine we_bl ?_ | refine we_str ?_ | refine we_ty ?_ | refine we_dnew ?_ | refine we_op ?_ | refine we_un ?_
  | refine we_and ?_ | refine we_or ?_ | refine we_not ?_ | refine we_if ?_ | refine we_chain ?_ | refine we_cb ?_ | refine we_tup ?_ | refine we_lst ?_
  | refine wl_cons ?_ | refine wl_nil ?_ | refine wt_B ?_ | refine wt_test ?_ | refine wt_and ?_ | refine wt_or ?_ | refine wt_not ?_ | refine wt_yes ?_
  | refine wi_tup ?_ | refine wi_list ?_ | refine wg_tup rfl ?_ | refine wgs_cons ?_ | refine wgs_nil ?_
  | refine rd_add_int ?_ | refine rd_sub ?_ | refine rd_lt ?_ | refine rd_le ?_ | refine rd_gt ?_ | refine rd_ge ?_ | refine rd_eq_int ?_ | refine rd_ne_int ?_ | refine rd_eq_str ?_ | refine rd_ne_str ?_ | refine rd_eq_bl ?_ | refine rd_ne_bl ?_ | refine rd_is ?_ | refine rd_is_bl ?_ | refine rd_isnot ?_ | refine ru_neg ?_
  | refine rc_int ?_ | refine rc_abs ?_ | refine rc_anyF ?_ | refine rc_allF ?_
  | refine brT ?_ | refine brF ?_ | refine brT' ?_ | refine brF' ?_
  | refine ⟨_, rfl, ?_⟩)
set_option hygiene false in
local macro_rules | `(tactic| walk_at "s1") => `(tactic| first
  | refine we_isiLT ?_ | refine we_isiILT ?_ | refine wi_seqV (by rfl) (by rfl) ?_ | walk_at "s0" | refine ⟨true, by rfl, ?_⟩ | refine ⟨false, by rfl, ?_⟩ | refine we_ref ?_ | refine we_fld1 ?_ | refine ⟨_, _, _, _, rfl, T.n_Gates_prime, by rfl, ?_⟩ | refine ⟨_, _, _, _, rfl, T.n_Gates_rows, by rfl, ?_⟩ | refine ⟨_, _, _, _, rfl, T.n_Gates_worths, by rfl, ?_⟩ | refine ⟨_, _, _, _, rfl, T.n_Poly_prime, by rfl, ?_⟩ | refine ⟨_, _, _, _, rfl, T.n_Poly_row, by rfl, ?_⟩ | refine ⟨_, _, _, _, rfl, T.n_Layers_net, by rfl, ?_⟩ | refine ⟨_, _, _, _, rfl, T.n_Layers_prime, by rfl, ?_⟩ | refine ⟨_, _, _, _, rfl, T.n_Layers_begin, by rfl, ?_⟩ | refine ⟨_, _, _, _, rfl, T.n_Layers_lot, by rfl, ?_⟩ | refine ⟨_, _, _, _, rfl, T.n_Layers_sizes, by rfl, ?_⟩ | refine rc_isiB (r := true) (by rfl) ?_ | refine rc_isiO T.k_Gates ?_ | refine rc_isiN T.k_Gates (by rfl) ?_ | refine rc_isiO T.k_Poly ?_ | refine rc_isiN T.k_Poly (by rfl) ?_ | refine rc_isiO T.k_Layers ?_ | refine rc_isiN T.k_Layers (by rfl) ?_ | refine we_callF (by assumption) ?_ | refine we_callF (X := fun _ _ _ _ => False) xok0 ?_ | refine we_callFl (by assumption) ?_ | refine we_callFl (X := fun _ _ _ _ => False) xok0 ?_ | refine we_makeFl (by assumption) ?_ | refine we_makeFl (X := fun _ _ _ _ => False) xok0 ?_ | refine we_makeF (by assumption) ?_ | refine we_makeF (X := fun _ _ _ _ => False) xok0 ?_ | refine DX.ws_rs (by assumption) ?_ | refine wt_test ?_ | refine co_ret rfl (by rfl) ?_ | refine wg_nm (by rfl) ?_ | refine parB (by rfl) (by rfl) ?_ | refine szB (by rfl) ?_ | refine szL (by rfl) ?_ | refine brT2 (by rfl) ?_ | refine brF2 (by rfl) ?_ | refine brT3 (by rfl) ?_ | refine brF3 (by rfl) ?_ | refine rc_isiB (r := false) (by rfl) ?_)
abbrev mixS : Spc := drawSpc (fun as b => ∃ l : List D, as = [.lst l] ∧ l.length ≤ 1000 ∧ b ≤ 100000000000) (fun as b d b' => ∃ l l' : List D, as = [.lst l] ∧ d = .lst l' ∧ l'.Perm l ∧ b' = b + l.length)
theorem perm_pop {l : List D} {i : Nat} {d : D} (h : l[i]? = some d) : (d :: l.eraseIdx i).Perm l := by
  induction l generalizing i with
  | nil => simp at h
  | cons x l ih =>
    cases i with
    | zero =>
      have e : x = d := by simpa using h
      subst e
      exact .refl _
    | succ i => exact (List.Perm.swap _ _ _).trans ((ih (by simpa using h)).cons x)
theorem ok_mixed (T : Tx P K mg A) : CalX P w K mg base 2 "_law_mixed" (SpS K 2 mixS) := by
  have c__law_draw := @ok_draw P w K mg base A T
  obtain ⟨a, fd, F, m, bi⟩ := T.f__law_mixed
  refine ⟨a, fd, _, fnS F sc__law_mixed rfl (fun cdv A' outer sh H E hr => ⟨_, (pss_cons (ps_asg (pe_callTy (DK.lst (K := K)) (by rfl) T.z_list (by decide +kernel) (pa_cons (pv 1) pa_nil)) (pg_name (i := 2) sc__law_mixed.nd rfl (by first | exact .inl rfl | exact .inr rfl)))
  (pss_one (ps_ret (pe_lc (own := [("_law_k", 3)]) (g := (gName 3)) (tt := tYes) rfl sc__law_mixed.nd (pi_range1 (by rfl) T.z_range (pa_cons (pe_callB (DK.len (K := K)) (by rfl) T.z_len (by decide +kernel) (pa_cons (pv 2) pa_nil)) pa_nil)) (blkOk_by (own := [("_law_k", 3)]) (N := n__law_mixed) (sc := (defScope s__law_mixed)) (by first | decide +kernel | kernel_rfl)) (fun _ _ _ _ _ => (pg_name (i := 3) sc__law_mixed.nd rfl (by first | exact .inl rfl | exact .inr rfl))) (fun _ _ _ _ _ => pts_nil) (fun _ _ _ _ _ => (DK.pe_bm PySem.F.plainAttrs_list PySem.F.slot_list_pop PySem.F.type_list_pop mt_popAt (pv 2) (pa_cons (pe_cx c__law_draw hr (by omega) (by rfl) passL (pa_cons (pv 0) (pa_cons (pe_callB (DK.len (K := K)) (by rfl) T.z_len (by decide +kernel) (pa_cons (pv 2) pa_nil)) pa_nil))) pa_nil))))))), fun R k0 ds b hp hl hE => ?_⟩), m, F.kp, bi⟩
  obtain ⟨aa, ls, as, rfl, rfl, ll, rfl, l1, hb⟩ := hp
  refine ws_seq (ws_asg (we_newL (we_var rfl ⟨_, rfl, fun o no => ?_⟩)))
  refine wg_nm (by rfl) ?_
  dsimp only [List.set]
  refine ws_ret (we_lcG (kg_name (by decide)) ?_)
  refine wi_rng1 (wl_cons (we_lenM (j := 0) (o := o) (ds := ll) (we_var rfl ⟨rfl, rfl, wl_nil ⟨(ll.length : Int), rfl, by omega, by omega, ?_⟩⟩)))
  rw [Int.toNat_natCast]
  refine ⟨fun i acc m b' => ∃ rest, m = [(o, .lst rest)] ∧ rest.length + i = ll.length ∧ (acc ++ rest).Perm ll ∧ acc.length = i ∧ b' = b + i, ⟨ll, rfl, rfl, .refl _, rfl, rfl⟩, ?_, ?_⟩
  · rintro i d acc m b' oD hi ⟨rest, rfl, h1, h2, h3, rfl⟩
    obtain ⟨rfl, hi'⟩ := rngD_get hi
    refine wg_nm (by rfl) ?_
    refine wt_yes ⟨fun _ => ?_, fun z => (nomatch z)⟩
    refine we_popE (j := 1) (o := o) (fun _ _ _ z => (nomatch z)) (we_var rfl ⟨rfl, ⟨rest, rfl⟩, ?_⟩)
    refine we_callR (SubR.self rfl) (X := fun _ _ _ _ => False) xok0 ?_
    refine wl_cons (we_var rfl (wl_cons (we_lenM (j := 1) (o := o) (ds := rest) (we_var rfl ⟨rfl, rfl, wl_nil ?_⟩))))
    refine ⟨rfl, ⟨aa, ls, _, rfl, rfl, rest.length, rfl, by omega, by omega, by dsimp only; omega⟩, ?_, fun _ _ _ _ z => z⟩
    rintro d b2 ⟨a2, as2, e2, n, x, e3, rfl, x1, x2, rfl⟩
    cases e2
    cases e3
    obtain ⟨k, rfl⟩ := Int.eq_ofNat_of_zero_le x1
    have hk : k < rest.length := by omega
    have ek : rest[k]? = some rest[k] := List.getElem?_eq_getElem hk
    refine ⟨k, rest[k], rest, rfl, by omega, rfl, ek, lt_size (by omega), _, rfl, rest.eraseIdx k, rfl, ?_, ?_, ?_, ?_⟩
    · rw [List.length_eraseIdx_of_lt hk]; omega
    · rw [List.append_assoc]
      exact ((perm_pop ek).append_left acc).trans h2
    · rw [List.length_append, h3]; rfl
    · dsimp only; omega
  · rintro acc m b' ⟨rest, rfl, h1, h2, h3, rfl⟩
    rw [rngD_len] at h1
    have er : rest = [] := List.length_eq_zero_iff.mp (by omega)
    subst er
    rw [List.append_nil] at h2
    refine ⟨aa, _, rfl, ll, acc, rfl, rfl, h2, ?_⟩
    dsimp only
    rw [rngD_len]
/-! a drawn lot -/
theorem perm_ints {l : List D} {xs : List Int} (h : l.Perm (xs.map D.int)) : ∃ ys : List Int, l = ys.map D.int ∧ ys.Perm xs := by
  refine ⟨l.map dI, ?_, ?_⟩
  · rw [List.map_map]
    conv => lhs; rw [← List.map_id l]
    refine List.map_congr_left fun d hd => ?_
    obtain ⟨x, _, rfl⟩ := List.mem_map.mp (h.mem_iff.mp hd)
    rfl
  · have z := h.map dI
    have e : (xs.map D.int).map dI = xs := by
      rw [List.map_map]
      exact (List.map_congr_left fun _ _ => rfl).trans (List.map_id' xs)
    rw [e] at z
    exact z
def rngI (n : Nat) : List Int := (List.range n).map fun i : Nat => (0 : Int) + (i : Int)
theorem rngI_nd (n : Nat) : (rngI n).Nodup := by
  unfold rngI
  show List.Pairwise _ _
  rw [List.pairwise_map]
  refine List.nodup_range.imp fun {a b} h e => h ?_
  have e : (0 : Int) + (a : Int) = 0 + (b : Int) := e
  omega
theorem rngI_mem {n : Nat} {x : Int} (h : x ∈ rngI n) : 0 ≤ x ∧ x < n := by
  unfold rngI at h
  obtain ⟨i, hi, rfl⟩ := List.mem_map.mp h
  have := List.mem_range.mp hi
  omega
theorem rngD_ints (n : Nat) : rngD 0 n = (rngI n).map D.int := by
  unfold rngD rngI
  rw [List.map_map]
  rfl
theorem get_iL {l : List Int} {j : Nat} {d : D} (h : (l.map D.int)[j]? = some d) : d = .int (l.getD j 0) ∧ l[j]? = some (l.getD j 0) ∧ j < l.length := by
  have hl := (List.getElem?_eq_some_iff.mp h).1
  rw [List.length_map] at hl
  rw [List.getElem?_map] at h
  rw [List.getD_eq_getElem?_getD]
  cases e : l[j]? with
  | none => rw [e] at h; cases h
  | some u => rw [e] at h; cases h; exact ⟨rfl, rfl, hl⟩
abbrev ptD (q : Int × Int) : D := .tup [.int q.1, .int q.2]
structure lotOk (p : Int) (l : List (Int × Int)) : Prop where
  one : 1 ≤ l.length
  few : l.length ≤ 3
  pos : ∀ q ∈ l, 1 ≤ q.2
  nd : (l.map fun q => q.1 % p).Nodup
abbrev lotS : Spc := drawSpc (fun as b => ∃ p m : Int, as = [.int p, .int m] ∧ isPrm p = true ∧ (1 ≤ m ∧ m ≤ 3 ∧ m ≤ p) ∧ b ≤ 10000000000) (fun as b d b' => ∃ (p m : Int) (l : List (Int × Int)), as = [.int p, .int m] ∧ d = .lst (l.map ptD) ∧ lotOk p l ∧ (l.length : Int) ≤ m ∧ b' ≤ b + 200)
theorem five_of {d : D} (h : d ∈ [D.int 0, .int 0, .int 0, .int 1, .int (-1)]) : ∃ k : Int, d = .int k ∧ -1 ≤ k ∧ k ≤ 1 := by
  simp only [List.mem_cons, List.not_mem_nil, or_false] at h
  rcases h with rfl | rfl | rfl | rfl | rfl <;> exact ⟨_, rfl, by decide, by decide⟩
set_option maxHeartbeats 8000000 in
theorem ok_lot (T : Tx P K mg A) : CalX P w K mg base 3 "_law_g_lot" (SpS K 3 lotS) := by
  have c__law_draw := @ok_draw P w K mg base A T
  have c__law_pick := @ok_pickX P w K mg base A T
  have c__law_mixed := @ok_mixed P w K mg base A T
  obtain ⟨a, fd, F, m, bi⟩ := T.f__law_g_lot
  refine ⟨a, fd, _, fnS F sc__law_g_lot rfl (fun cdv A' outer sh H E hr => ⟨_, (pss_cons (ps_asg (pe_lst pa_nil) (pg_name (i := 3) sc__law_g_lot.nd rfl (by first | exact .inl rfl | exact .inr rfl)))
  (pss_cons (ps_for (passes_of rfl) rfl (DK.pi_seq (K := K) (pe_slice (DK.sl (K := K)) (pe_cx c__law_mixed hr (by omega) (by rfl) (passes_call (takes_of rfl rfl rfl rfl) (fun _ _ _ _ z => z)) (pa_cons (pv 0) (pa_cons (pe_listRg rfl (by rfl) T.z_list (prg_1 (by rfl) T.z_range (pv 1))) pa_nil))) po_none (po_some (pe_op (DK.op_add (K := K)) pe_int (pe_cx c__law_draw hr (by omega) (by rfl) (passes_call (takes_of rfl rfl rfl rfl) (fun _ _ _ _ z => z)) (pa_cons (pv 0) (pa_cons (pv 2) pa_nil))))))) (pg_name (i := 4) sc__law_g_lot.nd rfl (by first | exact .inl rfl | exact .inr rfl))
  (pss_cons (ps_asg (pe_op op_mulK (pv 1) (pe_cx c__law_pick hr (by omega) (by rfl) (passes_call (takes_of rfl rfl rfl rfl) (fun _ _ _ _ z => z)) (pa_cons (pv 0) (pa_cons (pe_lst (pa_cons pe_int (pa_cons pe_int (pa_cons pe_int (pa_cons pe_int (pa_cons (pe_un un_negK pe_int) pa_nil)))))) pa_nil)))) (pg_name (i := 5) sc__law_g_lot.nd rfl (by first | exact .inl rfl | exact .inr rfl)))
  (pss_one (ps_expr (pe_bm PySem.F.plainAttrs_list PySem.F.slot_list_append PySem.F.type_list_append mt_append (pv 3) (pa_cons (pe_tup (pa_cons (pe_op (DK.op_add (K := K)) (pv 4) (pv 5)) (pa_cons (pe_op (DK.op_add (K := K)) pe_int (pe_cx c__law_draw hr (by omega) (by rfl) (passes_call (takes_of rfl rfl rfl rfl) (fun _ _ _ _ z => z)) (pa_cons (pv 0) (pa_cons pe_int pa_nil)))) pa_nil))) pa_nil))))))
  (pss_one (ps_ret (pv 3))))), fun R k0 ds b hp hl hE => ?_⟩), m, F.kp, bi⟩
  obtain ⟨aa, ls, as, rfl, rfl, p, mm, rfl, h1, hm, hb⟩ := hp
  obtain ⟨p1, p2⟩ := prm_le h1
  have SB : SubR ⟨K, strm aa ls, k0, H, true, fun _ => none⟩ (strm aa ls) := SubR.self rfl
  refine ws_seq (ws_asg (we_lstM (wl_nil (szB rfl fun q nq => ?_))))
  refine wg_nm (by rfl) ?_
  dsimp only [List.set]
  refine ws_seq (ws_for (wi_seqL (we_slL ?_)))
  refine we_callR SB (X := fun _ _ _ _ => False) xok0 (wl_cons (we_var rfl (wl_cons (we_lstRg1 (we_var rfl ⟨p, rfl, by omega, by omega, wl_nil ?_⟩)))))
  refine ⟨rfl, ⟨aa, ls, _, rfl, rfl, _, rfl, by rw [rngD_len]; omega, by first | omega | (dsimp only; omega)⟩, ?_, fun _ _ _ _ z => z⟩
  rintro d' b' ⟨a2, as2, e2, l1, l2, e3, rfl, perm, rfl⟩
  cases e2
  injection e3 with e3 _
  injection e3 with e3
  subst e3
  rw [rngD_ints] at perm
  obtain ⟨pl, rfl, perm2⟩ := perm_ints perm
  have pnd : pl.Nodup := perm2.nodup_iff.mpr (rngI_nd _)
  have prg : ∀ x ∈ pl, 0 ≤ x ∧ x < p := fun x hx => by
    have := rngI_mem (perm2.mem_iff.mp hx)
    omega
  have plen : pl.length = p.toNat := by
    rw [perm2.length_eq]
    unfold rngI
    rw [List.length_map, List.length_range]
  clear perm perm2
  refine wo_none (wo_some (we_op (we_int ?_)))
  refine we_drawE SB (by rfl) (we_var rfl ⟨mm, rfl, by omega, by omega, by rw [rngD_len]; first | omega | (dsimp only; omega), fun z z1 z2 => ?_⟩)
  obtain ⟨z, rfl⟩ := Int.eq_ofNat_of_zero_le z1
  refine rd_add_int ⟨_, rfl, _, rfl, _, rfl, ?_⟩
  have e1 : (1 : Int) + (z : Int) = ((z + 1 : Nat) : Int) := by omega
  rw [e1, cut_take, ← List.map_take]
  have qnd : (pl.take (z + 1)).Nodup := List.Nodup.sublist (List.take_sublist _ _) pnd
  have qrg : ∀ x ∈ pl.take (z + 1), 0 ≤ x ∧ x < p := fun x hx => prg x (List.mem_of_mem_take hx)
  have qlen : (pl.take (z + 1)).length = z + 1 := by rw [List.length_take]; omega
  generalize pl.take (z + 1) = ql at qnd qrg qlen
  clear pnd prg plen
  obtain ⟨b1, eb1⟩ : ∃ b1 : Nat, b1 = b + (rngD 0 p.toNat).length + 1 := ⟨_, rfl⟩
  have hb1 : b1 ≤ b + 102 := by rw [eb1, rngD_len]; omega
  have eb2 : b + (rngD 0 p.toNat).length + 1 = b1 := eb1.symm
  dsimp only
  rw [eb2]
  clear eb1 eb2
  refine ⟨fun j ς => ∃ (pts : List (Int × Int)) (x4 x5 : Option D) (b2 : Nat), ς = { δ := [some (.ref aa), some (.int p), some (.int mm), some (.ref q), x4, x5], m := [(q, .lst (pts.map ptD))], b := b2 } ∧ b2 ≤ b1 + 2 * j ∧ (pts.map fun q => q.1 % p) = ql.take j ∧ ∀ q ∈ pts, 1 ≤ q.2, ⟨[], none, none, _, rfl, by omega, rfl, fun _ h => absurd h (by simp)⟩, ?_, ?_⟩
  · rintro j d ς hj ⟨pts, x4, x5, b2, rfl, hb2, er, hp⟩
    obtain ⟨rfl, hpj, jl⟩ := get_iL hj
    generalize ql.getD j 0 = y at hpj
    obtain ⟨y1, y2⟩ := qrg y (List.mem_of_getElem? hpj)
    have lp : pts.length = j := by
      have z := congrArg List.length er
      rw [List.length_map, List.length_take] at z
      omega
    refine wg_nm (by rfl) ?_
    dsimp only [List.set]
    refine ws_seq (ws_asg (we_op (we_var rfl ?_)))
    refine we_pickX SB (by rfl) ?_
    repeat (walk_at "s1")
    refine ⟨(by show 0 < 5; decide), (by show 5 ≤ 1000000; decide), by first | omega | (dsimp only; omega), fun x hx => ?_⟩
    obtain ⟨u, rfl, u1, u2⟩ := five_of hx
    refine rd_mul (mul_small (by omega) (by omega)) ?_
    refine wg_nm (by rfl) ?_
    dsimp only [List.set]
    refine ws_append (j := 0) (o := q) (ds := pts.map ptD) (fun _ _ _ z => (nomatch z)) ?_
    refine we_var rfl ⟨rfl, ⟨_, rfl⟩, we_tup (wl_cons (we_op (we_var rfl (we_var rfl (rd_add_int (wl_cons (we_op (we_int ?_))))))))⟩
    refine we_draw SB (by rfl) (by omega) (by omega) (by first | omega | (dsimp only; omega)) fun v v1 v2 => ?_
    refine rd_add_int (wl_nil (szB rfl ?_))
    refine ⟨rfl, lt_size (by rw [List.length_map]; omega), ?_⟩
    dsimp only [List.set]
    have em : pts.map ptD ++ [D.tup [.int (y + p * u), .int (1 + v)]] = (pts ++ [(y + p * u, 1 + v)]).map ptD := by
      rw [List.map_append]
      rfl
    rw [em]
    refine ⟨_, _, _, _, rfl, by first | omega | (dsimp only; omega), ?_, fun q hq => ?_⟩
    · rw [List.map_append, er, List.take_add_one, hpj]
      show _ ++ [(y + p * u) % p] = _ ++ [y]
      rw [Int.add_mul_emod_self_left, Int.emod_eq_of_lt y1 y2]
    · rcases List.mem_append.mp hq with hq | hq
      · exact hp q hq
      · rw [List.mem_singleton.mp hq]
        show 1 ≤ 1 + v
        omega
  · rintro ς ⟨pts, x4, x5, b2, rfl, hb2, er, hp⟩
    rw [List.length_map, List.take_length] at er
    rw [List.length_map] at hb2
    have lp : pts.length = z + 1 := by
      have z := congrArg List.length er
      rw [List.length_map] at z
      omega
    refine ws_freeze (i := 3) (j := 0) rfl rfl rfl ?_
    dsimp only [List.set, List.eraseIdx]
    refine ws_ret (we_var rfl ?_)
    exact ⟨aa, _, rfl, p, mm, pts, rfl, rfl, ⟨by omega, by omega, hp, by rw [er]; exact qnd⟩, by omega, by first | omega | (dsimp only; omega)⟩
end
end K54

set_option Elab.async false
set_option linter.all false
set_option maxRecDepth 100000
set_option maxHeartbeats 4000000
namespace K54
open PySem PySem.Spec PyProof.Rows L2 DL
/-! coins refused: facts -/
def resL (p : Int) (l : List (Int × Int)) : List Int := l.map fun q => q.1 % p
def cnBad (p : Int) (s : List Int) (o : D) : Prop := isCn o = none ∨ ∃ a w, isCn o = some (a, w) ∧ a % p ∈ s
theorem isCn_pt {q : Int × Int} (h : 1 ≤ q.2) : isCn (ptD q) = some q := by
  show (if 1 ≤ q.2 then some (q.1, q.2) else none) = _
  rw [if_pos h]
theorem badC_at {p : Int} {o : D} {r : List D} : ∀ {l : List (Int × Int)} {s : List Int} {i : Nat}, (∀ q ∈ l, 1 ≤ q.2) → (s ++ resL p l).Nodup → cnBad p (s ++ resL p l) o → badC p s (l.map ptD ++ o :: r) i = some (i + l.length)
  | [], s, i, _, _, ho => by
    show (match isCn o with
      | some q => if q.1 % p ∈ s then some i else badC p (s ++ [q.1 % p]) r (i + 1)
      | none => some i) = some i
    have ho : cnBad p s o := by
      have e : s ++ resL p [] = s := List.append_nil s
      rw [e] at ho
      exact ho
    rcases ho with h | ⟨a, w, h, hm⟩
    · rw [h]
    · rw [h]
      exact if_pos hm
  | q :: l, s, i, hp, hn, ho => by
    show (match isCn (ptD q) with
      | some q => if q.1 % p ∈ s then some i else badC p (s ++ [q.1 % p]) (l.map ptD ++ o :: r) (i + 1)
      | none => some i) = _
    rw [isCn_pt (hp q List.mem_cons_self)]
    have e : s ++ resL p (q :: l) = (s ++ [q.1 % p]) ++ resL p l := by
      show s ++ (q.1 % p :: resL p l) = _
      rw [List.append_assoc]
      rfl
    rw [e] at hn ho
    have hns : q.1 % p ∉ s := by
      have := (List.nodup_append.mp hn).1
      intro hm
      have := List.nodup_append.mp this
      exact this.2.2 _ hm _ (List.mem_singleton.mpr rfl) rfl
    dsimp only
    rw [if_neg hns, badC_at (fun q hq => hp q (List.mem_cons_of_mem _ hq)) hn ho, List.length_cons]
    congr 1
    omega
theorem badC_ok {p : Int} : ∀ {l : List (Int × Int)} {s : List Int} {i : Nat}, (∀ q ∈ l, 1 ≤ q.2) → (s ++ resL p l).Nodup → badC p s (l.map ptD) i = none
  | [], _, _, _, _ => rfl
  | q :: l, s, i, hp, hn => by
    show (match isCn (ptD q) with
      | some q => if q.1 % p ∈ s then some i else badC p (s ++ [q.1 % p]) (l.map ptD) (i + 1)
      | none => some i) = _
    rw [isCn_pt (hp q List.mem_cons_self)]
    have e : s ++ resL p (q :: l) = (s ++ [q.1 % p]) ++ resL p l := by
      show s ++ (q.1 % p :: resL p l) = _
      rw [List.append_assoc]
      rfl
    rw [e] at hn
    have hns : q.1 % p ∉ s := by
      have := (List.nodup_append.mp hn).1
      intro hm
      have := List.nodup_append.mp this
      exact this.2.2 _ hm _ (List.mem_singleton.mpr rfl) rfl
    dsimp only
    rw [if_neg hns, badC_ok (fun q hq => hp q (List.mem_cons_of_mem _ hq)) hn]
/-- the place that fits -/
structure placeOk (x : Net) (pl : List Int) : Prop where
  len : (pl.length : Int) = bitAt x 0
  few : pl.length ≤ 2
theorem place_ok {x : Net} {pl : List Int} (h : placeOk x pl) : plcBad (bitAt x 0) (iL pl) = false ∧ okO (iL pl) = true := by
  have hf := h.few
  obtain ⟨i1, i2, i3⟩ := inp_ok (inp := pl) (by omega)
  refine ⟨?_, i1⟩
  unfold plcBad
  rw [i2]
  show (!(true && decide (((pl.map D.int).length : Int) = bitAt x 0))) = false
  rw [List.length_map, decide_eq_true h.len]
  rfl
theorem talk_made {A : Ad} {x : Net} {pl : List Int} {l : List (Int × Int)} (hg : netG x) (h : placeOk x pl) (hl : lotOk x.1 l) : gLay A [nD A x, iL pl, .lst (l.map ptD)] = some (.ok ["net", "prime", "begin", "lot", "sizes"] [nD A x, .int x.1, .tup ((pl.map fun y => y % x.1).map D.int), .lst ((l.map ptD).map (cnD x.1)), iL (szOf x)]) := by
  obtain ⟨h1, h2⟩ := place_ok h
  have hl1 := hl.one
  have hl2 := hl.few
  have i3 := (inp_ok (inp := pl) (by have := h.few; omega)).2.2
  have e : badCD x.1 (.lst (l.map ptD)) = .non := by
    unfold badCD
    have ne : (isLst (.lst (l.map ptD)) && !(itemsD (.lst (l.map ptD))).isEmpty) = true := by
      cases l with
      | nil => simp at hl1
      | cons q l => rfl
    rw [if_pos ne]
    show oddO (badC x.1 [] (l.map ptD) 0) = .non
    rw [badC_ok hl.pos (by rw [List.nil_append]; exact hl.nd)]
    rfl
  rw [gLay_eq hg h2 (.inr ⟨?_, ?_⟩)]
  · unfold gLayB
    rw [if_neg (by rw [h1]; exact Bool.false_ne_true), e, i3]
    rfl
  · show (true && ((l.map ptD).all okO && decide ((l.map ptD).length ≤ 1000))) = true
    rw [List.length_map, decide_eq_true (by omega), Bool.and_true, Bool.true_and]
    refine List.all_eq_true.mpr fun d hd => ?_
    obtain ⟨q, _, rfl⟩ := List.mem_map.mp hd
    rfl
  · refine List.all_eq_true.mpr fun d hd => ?_
    obtain ⟨q, _, rfl⟩ := List.mem_map.mp hd
    rfl
theorem coin_bad {A : Ad} {x : Net} {pl : List Int} {l : List (Int × Int)} {o : D} {at_ : Nat} {r : List D} (hg : netG x) (h : placeOk x pl) (hl : lotOk x.1 l) (ha : at_ ≤ l.length) (ho : cnBad x.1 (resL x.1 (l.take at_)) o) (ok : okO o = true) (nl : nLst o = true) (hr : r.all okO = true) (hr2 : r.all nLst = true) (hr3 : r.length ≤ 10) :
    gLay A [nD A x, iL pl, .lst ((l.take at_).map ptD ++ o :: r)] = some (.exc A.BadCoin ["index"] [.int (at_ : Int)]) := by
  obtain ⟨h1, h2⟩ := place_ok h
  have hl2 := hl.few
  have lt : (l.take at_).length = at_ := by rw [List.length_take]; omega
  have hp : ∀ q ∈ l.take at_, 1 ≤ q.2 := fun q hq => hl.pos q (List.mem_of_mem_take hq)
  have hn : (resL x.1 (l.take at_)).Nodup := by
    unfold resL
    rw [List.map_take]
    exact List.Nodup.sublist (List.take_sublist _ _) hl.nd
  have e : badCD x.1 (.lst ((l.take at_).map ptD ++ o :: r)) = .int (at_ : Int) := by
    unfold badCD
    have ne : (isLst (.lst ((l.take at_).map ptD ++ o :: r)) && !(itemsD (.lst ((l.take at_).map ptD ++ o :: r))).isEmpty) = true := by
      show (true && !((l.take at_).map ptD ++ o :: r).isEmpty) = true
      cases (l.take at_).map ptD <;> rfl
    rw [if_pos ne]
    show oddO (badC x.1 [] ((l.take at_).map ptD ++ o :: r) 0) = _
    rw [badC_at hp (by rw [List.nil_append]; exact hn) (by rw [List.nil_append]; exact ho), lt, Nat.zero_add]
    rfl
  rw [gLay_eq hg h2 (.inr ⟨?_, ?_⟩)]
  · unfold gLayB
    rw [if_neg (by rw [h1]; exact Bool.false_ne_true), e]
  · show (true && (((l.take at_).map ptD ++ o :: r).all okO && decide (((l.take at_).map ptD ++ o :: r).length ≤ 1000))) = true
    rw [List.length_append, List.length_map, List.length_cons, decide_eq_true (by omega), Bool.and_true, Bool.true_and, List.all_append, List.all_cons, ok, hr, Bool.and_true, Bool.and_true]
    refine List.all_eq_true.mpr fun d hd => ?_
    obtain ⟨q, _, rfl⟩ := List.mem_map.mp hd
    rfl
  · show ((l.take at_).map ptD ++ o :: r).all nLst = true
    rw [List.all_append, List.all_cons, nl, hr2, Bool.and_true, Bool.and_true]
    refine List.all_eq_true.mpr fun d hd => ?_
    obtain ⟨q, _, rfl⟩ := List.mem_map.mp hd
    rfl
theorem coins_none {A : Ad} {x : Net} {pl : List Int} {o : D} (hg : netG x) (h : placeOk x pl) (ho : o ∈ [D.non, .int 5, .lst [], .tup [], .str "ab", .dct [] []]) : gLay A [nD A x, iL pl, o] = some (.exc A.BadCoin ["index"] [.int 0]) := by
  obtain ⟨h1, h2⟩ := place_ok h
  simp only [List.mem_cons, List.not_mem_nil, or_false] at ho
  rcases ho with rfl | rfl | rfl | rfl | rfl | rfl
  all_goals
    rw [gLay_eq hg h2 (.inr ⟨rfl, rfl⟩)]
    unfold gLayB
    rw [if_neg (by rw [h1]; exact Bool.false_ne_true)]
    rfl
theorem place_bad {A : Ad} {x : Net} {o : D} (hg : netG x) (ho : plcBad (bitAt x 0) o = true) (ok : okO o = true) : gLay A [nD A x, o, .non] = some (.exc A.BadPlace ["thing"] [o]) := by
  rw [gLay_eq hg ok (.inl ho)]
  unfold gLayB
  rw [if_pos ho]
/-! where a talk stands -/
def sumS (x : Net) : Nat → Nat → Nat
  | 0, _ => 0
  | f + 1, k => 2 * (bitAt x (k + 1)).toNat + 1 + sumS x f (k + 1)
theorem lyS_in {x : Net} : ∀ {f k : Nat} {pl own : List Int}, own.length < sumS x f k → (lyS x f k pl own).1 < k + f
  | 0, _, _, _, h => by
    have h : _ < 0 := h
    omega
  | f + 1, k, pl, own, h => by
    have h : own.length < 2 * (bitAt x (k + 1)).toNat + 1 + sumS x f (k + 1) := h
    unfold lyS
    by_cases hq : 2 * (bitAt x (k + 1)).toNat + 1 ≤ own.length
    · rw [if_pos hq]
      have := lyS_in (x := x) (f := f) (k := k + 1) (pl := mixL x.1 (own.take (bitAt x (k + 1)).toNat) ((own.drop (bitAt x (k + 1)).toNat).take (bitAt x (k + 1)).toNat) (own.getD (2 * (bitAt x (k + 1)).toNat) 0)) (own := own.drop (2 * (bitAt x (k + 1)).toNat + 1)) (by rw [List.length_drop]; omega)
      omega
    · rw [if_neg hq]
      show k < k + (f + 1)
      omega
theorem lyS_end {x : Net} : ∀ {f k : Nat} {pl own : List Int}, sumS x f k ≤ own.length → (lyS x f k pl own).1 = k + f
  | 0, _, _, _, _ => rfl
  | f + 1, k, pl, own, h => by
    have h : 2 * (bitAt x (k + 1)).toNat + 1 + sumS x f (k + 1) ≤ own.length := h
    unfold lyS
    rw [if_pos (by omega)]
    have := lyS_end (x := x) (f := f) (k := k + 1) (pl := mixL x.1 (own.take (bitAt x (k + 1)).toNat) ((own.drop (bitAt x (k + 1)).toNat).take (bitAt x (k + 1)).toNat) (own.getD (2 * (bitAt x (k + 1)).toNat) 0)) (own := own.drop (2 * (bitAt x (k + 1)).toNat + 1)) (by rw [List.length_drop]; omega)
    omega
theorem sum_range {x : Net} (h : netOk x.2.1 x.2.2) : ∀ {f k : Nat}, k + f ≤ x.2.1.length → ((List.range' k f).map fun j => 2 * bitAt x (j + 1) + 1).sum = (sumS x f k : Int)
  | 0, _, _ => rfl
  | f + 1, k, hk => by
    rw [List.range'_succ, List.map_cons, List.sum_cons, sum_range h (by omega)]
    obtain ⟨b0, _⟩ := bitAt_le (k := k + 1) h (by omega)
    show 2 * bitAt x (k + 1) + 1 + (sumS x f (k + 1) : Int) = ((2 * (bitAt x (k + 1)).toNat + 1 + sumS x f (k + 1) : Nat) : Int)
    omega
theorem beats_sum {x : Net} (h : netOk x.2.1 x.2.2) : beatsOf x = (sumS x x.2.1.length 0 : Int) := by
  unfold beatsOf szOf
  rw [List.range_eq_range']
  exact sum_range h (by omega)
theorem thr_ints {xs : List Int} {m : Int} (hl : xs.length ≤ 1000) : thrI (iL xs) m = if m < (xs.length : Int) then some (xs.length : Int) else none := by
  obtain ⟨i1, i2, i3⟩ := inp_ok (inp := xs) hl
  have e : oddD (iL xs) = .non := by
    show oddO (oddI (xs.map D.int) 0) = .non
    rw [oddI_ints]
    rfl
  unfold thrI
  rw [e]
  show (if m < ((xs.map D.int).length : Int) then some ((xs.map D.int).length : Int) else none) = _
  rw [List.length_map]
theorem oddI_app {o : D} (ho : isIntD o = false) : ∀ {xs : List Int} {i : Nat}, oddI (xs.map D.int ++ [o]) i = some (i + xs.length)
  | [], i => by
    show (if isIntD o = true then oddI [] (i + 1) else some i) = _
    rw [ho]
    rfl
  | x :: xs, i => by
    show (if isIntD (.int x) = true then oddI (xs.map D.int ++ [o]) (i + 1) else some i) = _
    rw [if_pos (show isIntD (.int x) = true from rfl), oddI_app ho, List.length_cons]
    congr 1
    omega
theorem ends_less {A : Ad} {t : Tk} {xs : List Int} (ht : tkOk t) (hl : (xs.length : Int) < beatsOf t.1) : gEnds A [tkD A t, iL xs, .non] = some (.exc A.BadThrown ["index"] [.int (xs.length : Int)]) := by
  have hb := beats_le ht.net.ok
  obtain ⟨i1, i2, i3⟩ := inp_ok (inp := xs) (by omega)
  rw [gEnds_eq ht i1 rfl rfl]
  unfold endO
  rw [thr_ints (by omega), if_neg (by omega)]
  dsimp only
  unfold spotOf
  rw [i3]
  have := lyS_in (x := t.1) (f := t.1.2.1.length) (k := 0) (pl := t.2.1) (own := xs.map fun y => y % t.1.1) (by
    rw [List.length_map]
    have := beats_sum ht.net.ok
    omega)
  rw [if_pos (by omega)]
  show some (Out.exc A.BadThrown ["index"] [.int ((xs.map D.int).length : Int)]) = _
  rw [List.length_map]
theorem ends_full {A : Ad} {t : Tk} {xs : List Int} {m : D} (ht : tkOk t) (hl : (xs.length : Int) = beatsOf t.1) (h1 : (tyN m).isSome = true) (h2 : isIntD m = false) : gEnds A [tkD A t, iL xs, m] = some (.exc A.BadNumber ["number"] [m]) := by
  have hb := beats_le ht.net.ok
  obtain ⟨i1, i2, i3⟩ := inp_ok (inp := xs) (by omega)
  rw [gEnds_eq ht i1 h1 h2]
  unfold endO
  rw [thr_ints (by omega), if_neg (by omega)]
  dsimp only
  unfold spotOf
  rw [i3]
  have := lyS_end (x := t.1) (f := t.1.2.1.length) (k := 0) (pl := t.2.1) (own := xs.map fun y => y % t.1.1) (by
    rw [List.length_map]
    have := beats_sum ht.net.ok
    omega)
  rw [if_neg (by omega)]
end K54

set_option Elab.async false
set_option linter.all false
set_option maxRecDepth 100000
set_option maxHeartbeats 4000000
namespace K54
open PySem PySem.Spec PyProof.Rows L2 DL
section
variable {P : Program} {w : World} {K : PySem.W.Frag} {mg : Str → Option Value} {base : Heap} {A : Ad}
local macro_rules | `(tactic| walk_at "s0") => `(tactic| with_reducible first
  | refine ws_seq ?_ | refine ws_next ?_ | refine ws_ret ?_ | refine ws_retN ?_ | refine ws_if ?_ | refine ws_asg ?_ | refine ws_drop ?_ | refine ws_par ?_ | refine ws_break ?_ | refine ws_cont ?_
  | refine we_var rfl ?_ | refine we_int ?_ | refine we_non ?_ | refine we_bl ?_ | refine we_str ?_ | refine we_ty ?_ | refine we_dnew ?_ | refine we_op ?_ | refine we_un ?_
  | refine we_and ?_ | refine we_or ?_ | refine we_not ?_ | refine we_if ?_ | refine we_chain ?_ | refine we_cb ?_ | refine we_tup ?_ | refine we_lst ?_
  | refine wl_cons ?_ | refine wl_nil ?_ | refine wt_B ?_ | refine wt_test ?_ | refine wt_and ?_ | refine wt_or ?_ | refine wt_not ?_ | refine wt_yes ?_
  | refine wi_tup ?_ | refine wi_list ?_ | refine wg_tup rfl ?_ | refine wgs_cons ?_ | refine wgs_nil ?_
  | refine rd_add_int ?_ | refine rd_sub ?_ | refine rd_lt ?_ | refine rd_le ?_ | refine rd_gt ?_ | refine rd_ge ?_ | refine rd_eq_int ?_ | refine rd_ne_int ?_ | refine rd_eq_str ?_ | refine rd_ne_str ?_ | refine rd_eq_bl ?_ | refine rd_ne_bl ?_ | refine rd_is ?_ | refine rd_is_bl ?_ | refine rd_isnot ?_ | refine ru_neg ?_
  | refine rc_int ?_ | refine rc_abs ?_ | refine rc_anyF ?_ | refine rc_allF ?_
  | refine brT ?_ | refine brF ?_ | refine brT' ?_ | refine brF' ?_
  | refine ⟨_, rfl, ?_⟩)
set_option hygiene false in
local macro_rules | `(tactic| walk_at "s1") => `(tactic| first
  | refine we_isiLT ?_ | refine we_isiILT ?_ | refine wi_seqV (by rfl) (by rfl) ?_ | walk_at "s0" | refine ⟨true, by rfl, ?_⟩ | refine ⟨false, by rfl, ?_⟩ | refine we_ref ?_ | refine we_fld1 ?_ | refine ⟨_, _, _, _, rfl, T.n_Gates_prime, by rfl, ?_⟩ | refine ⟨_, _, _, _, rfl, T.n_Gates_rows, by rfl, ?_⟩ | refine ⟨_, _, _, _, rfl, T.n_Gates_worths, by rfl, ?_⟩ | refine ⟨_, _, _, _, rfl, T.n_Poly_prime, by rfl, ?_⟩ | refine ⟨_, _, _, _, rfl, T.n_Poly_row, by rfl, ?_⟩ | refine ⟨_, _, _, _, rfl, T.n_Layers_net, by rfl, ?_⟩ | refine ⟨_, _, _, _, rfl, T.n_Layers_prime, by rfl, ?_⟩ | refine ⟨_, _, _, _, rfl, T.n_Layers_begin, by rfl, ?_⟩ | refine ⟨_, _, _, _, rfl, T.n_Layers_lot, by rfl, ?_⟩ | refine ⟨_, _, _, _, rfl, T.n_Layers_sizes, by rfl, ?_⟩ | refine rc_isiB (r := true) (by rfl) ?_ | refine rc_isiO T.k_Gates ?_ | refine rc_isiN T.k_Gates (by rfl) ?_ | refine rc_isiO T.k_Poly ?_ | refine rc_isiN T.k_Poly (by rfl) ?_ | refine rc_isiO T.k_Layers ?_ | refine rc_isiN T.k_Layers (by rfl) ?_ | refine we_callF (by assumption) ?_ | refine we_callF (X := fun _ _ _ _ => False) xok0 ?_ | refine we_callFl (by assumption) ?_ | refine we_callFl (X := fun _ _ _ _ => False) xok0 ?_ | refine we_makeFl (by assumption) ?_ | refine we_makeFl (X := fun _ _ _ _ => False) xok0 ?_ | refine we_makeF (by assumption) ?_ | refine we_makeF (X := fun _ _ _ _ => False) xok0 ?_ | refine DX.ws_rs (by assumption) ?_ | refine wt_test ?_ | refine co_ret rfl (by rfl) ?_ | refine wg_nm (by rfl) ?_ | refine parB (by rfl) (by rfl) ?_ | refine szB (by rfl) ?_ | refine szL (by rfl) ?_ | refine brT2 (by rfl) ?_ | refine brF2 (by rfl) ?_ | refine brT3 (by rfl) ?_ | refine brF3 (by rfl) ?_ | refine rc_isiB (r := false) (by rfl) ?_)
/-! coins refused: the walk -/
theorem we_triedL {c : Cn} {ς : Sta} {Φ : D → Sta → Prop} {Tb : List (Addr × Str)} {q : Str} {d : D} {C : Addr} {ns : List Str} {fs : List D} {ta : TA} {ds0 : List D} (T : Tx P c.K mg A) (V : TabR c Tb) (hds : ds0.length + 1 = 4) (hg : gLay A ds0 = some (.exc C ns fs)) (ht : Tried A (.exc C ns fs) d)
    (ha : ∀ c3 : Cn, c3.K = c.K → WL c3 ta { δ := ς.δ, b := ς.b } fun ds ς1 => ds = ds0 ∧ ς1 = { δ := ς.δ, b := ς.b }) (hq : Φ d ς) :
    WE c (LamX.tLam Tb (DX.TTof q n__law_tried (t_tried c.K A q)) fun E => tMake A.Layers (SpI c.K 4 A.Layers (spcI (gLay A))) [] E ta) ς Φ := by
  refine we_tried T V ht (fun c3 h1 h2 E hE => ?_) hq
  have ha := ha c3 h1
  obtain ⟨K3, R3, k3, h3, f3, b3⟩ := c3
  have h1 : K3 = c.K := h1
  subst h1
  refine we_makeF hE fun σ k hh S Q z => ha σ k hh S Q fun vs k' h' ds ς' S' e r ⟨e1, e2⟩ => z vs k' h' ds ς' S' e r ⟨by rw [e1]; exact hds, _, by rw [e1]; exact hg, .exc ⟨rfl, e2⟩⟩
abbrev qA : Str := ("_law_coins_refused" ++ ".<locals>.") ++ "<lambda>"
abbrev qB : Str := ("_law_thrown_refused" ++ ".<locals>.") ++ "<lambda>"
abbrev tb3 (A : Ad) : List (Addr × Str) := [(A.tL, qA), (A.tL2, qB), (A.tL3, q2)]
theorem hu3 {A : Ad} (h : (A.tL ≠ A.tL2 ∧ A.tL ≠ A.tL3) ∧ A.tL2 ≠ A.tL3) : (∀ p ∈ tb3 A, p.1 = A.tL → p.2 = qA) ∧ (∀ p ∈ tb3 A, p.1 = A.tL2 → p.2 = qB) ∧ ∀ p ∈ tb3 A, p.1 = A.tL3 → p.2 = q2 := by
  obtain ⟨⟨h1, h2⟩, h3⟩ := h
  refine ⟨fun p hp e => ?_, fun p hp e => ?_, fun p hp e => ?_⟩
  · simp only [List.mem_cons, List.not_mem_nil, or_false] at hp
    rcases hp with rfl | rfl | rfl
    · rfl
    · exact absurd e.symm h1
    · exact absurd e.symm h2
  · simp only [List.mem_cons, List.not_mem_nil, or_false] at hp
    rcases hp with rfl | rfl | rfl
    · exact absurd e h1
    · rfl
    · exact absurd e.symm h3
  · simp only [List.mem_cons, List.not_mem_nil, or_false] at hp
    rcases hp with rfl | rfl | rfl
    · exact absurd e h2
    · exact absurd e h3
    · rfl
theorem ws_gen {c : Cn} {t : TS} {ς : Sta} {Ψ : Psi} (M : Sta → Prop) (h0 : M ς) (h : ∀ ς', M ς' → WS c t ς' Ψ) : WS c t ς Ψ := h ς h0
def crPre (A : Ad) (as : List D) (b : Nat) : Prop := ∃ (x : Net) (pl : List Int), as = [nD A x, iL pl] ∧ netG x ∧ placeOk x pl ∧ b ≤ 1000000000
def crPost (as : List D) (b : Nat) (d : D) (b' : Nat) : Prop := d = .bl true ∧ b' ≤ b + 300
def someC (p : Int) (q : Int × Int) : List D := [.non, .int 5, .tup [.int 1], .tup [.int 1, .int 0], .tup [.int 1, .int (-1)], .tup [.str "1", .int 1], .tup [.int 1, .str "1"], .tup [.bl true, .int 1], .tup [.int 1, .bl true], .tup [.int 1, .int 1, .int 1], ptD q, .dct [] []] ++ [.tup [.int (q.1 + p), .int 2]]
theorem some_bad {p : Int} {l : List (Int × Int)} {q : Int × Int} {k : Nat} {o : D} (hl : lotOk p l) (hq : l[0]? = some q) (hk : 1 ≤ k) (h : o ∈ someC p q) : cnBad p (resL p (l.take k)) o ∧ okO o = true ∧ nLst o = true := by
  have mem : q.1 % p ∈ resL p (l.take k) := by
    unfold resL
    refine List.mem_map.mpr ⟨q, ?_, rfl⟩
    have e : (l.take k)[0]? = some q := by rw [List.getElem?_take, if_pos (by omega)]; exact hq
    exact List.mem_of_getElem? e
  have hp := hl.pos q (List.mem_of_getElem? hq)
  unfold someC at h
  rcases List.mem_append.mp h with h | h
  · simp only [List.mem_cons, List.not_mem_nil, or_false] at h
    rcases h with rfl | rfl | rfl | rfl | rfl | rfl | rfl | rfl | rfl | rfl | rfl | rfl
    rotate_left 10
    · exact ⟨.inr ⟨q.1, q.2, isCn_pt hp, mem⟩, rfl, rfl⟩
    all_goals exact ⟨.inl rfl, rfl, rfl⟩
  · rw [List.mem_singleton.mp h]
    refine ⟨.inr ⟨q.1 + p, 2, rfl, ?_⟩, rfl, rfl⟩
    rw [Int.add_emod_right]
    exact mem
theorem sh6 : SeqAt.shaped (D.lst ([D.non, .int 5, .lst [], .tup [], .str "ab", .dct [] []].map fun _ => D.tup [.str "coin", .int 0])).toPy = true ∧ SeqAt.shaped (D.lst (List.replicate (6 : Int).toNat [D.tup [.str "coin", .int 0]]).flatten).toPy = true ∧ PyData.eqv (D.lst ([D.non, .int 5, .lst [], .tup [], .str "ab", .dct [] []].map fun _ => D.tup [.str "coin", .int 0])).toPy (D.lst (List.replicate (6 : Int).toNat [D.tup [.str "coin", .int 0]]).flatten).toPy = true := ⟨by decide +kernel, by decide +kernel, by decide +kernel⟩
inductive LC (A : Ad) (st : Addr) (x : Net) (pl : List Int) (l : List (Int × Int)) (B : Nat) : Sta → Prop
  | mk {x4 x5 x6 x7 : Option D} {b : Nat} (h : b ≤ B) : LC A st x pl l B { δ := [some (.ref st), some (nD A x), some (iL pl), some (.lst (l.map ptD)), x4, x5, x6, x7], m := [], b := b }
set_option maxHeartbeats 32000000 in
theorem ok_coins_refused (T : Tx P K mg A) (TB : LamX.TabB base mg A.cL A.tL) : CalX P w K mg base 11 "_law_coins_refused" (SpTab K 3 (tb3 A) (crPre A) crPost) := by
  have c_Layers := @ok_Layers P w K mg base A T
  have c__law_draw := @ok_draw P w K mg base A T
  have c__law_g_lot := @ok_lot P w K mg base A T
  have c__law_same := @ok_same P w K mg base A T 6
  have MT : (A.tL, qA) ∈ tb3 A := List.mem_cons_self
  have HU := (hu3 T.t_ne).1
  obtain ⟨a, fd, F, m, bi⟩ := T.f__law_coins_refused
  obtain ⟨oc, od, kV, doc, pm, an, cdv, ct, osl, rfl, lk, hcd⟩ := F.ex
  have hcv : cdv = .ref A.cL := by
    obtain ⟨cc, rfl⟩ := He.codeIn_ref hcd
    rw [T.c_law _ _ _ _ _ cc m lk rfl]
  subst hcv
  refine ⟨a, _, _, fn_of lk hcd sc__law_coins_refused (fun vs H Q E h => h.1) (fun A' outer s H vs Q E hr h => ⟨_, (pss_cons (ps_asg (pe_cx c__law_g_lot hr (by omega) (by rfl) (passes_call (takes_of rfl rfl rfl rfl) (fun _ _ _ _ z => z)) (pa_cons (pv 0) (pa_cons (DK.pe_fld (K := K) (pv 1)) (pa_cons (pe_callB (call_min2 rfl) (by rfl) T.z_min (by decide +kernel) (pa_cons pe_int (pa_cons (DK.pe_fld (K := K) (pv 1)) pa_nil))) pa_nil)))) (pg_name (i := 3) sc__law_coins_refused.nd rfl (by first | exact .inl rfl | exact .inr rfl)))
  (pss_cons (ps_asg (pe_lst (pa_cons pe_non (pa_cons pe_int (pa_cons (pe_tup (pa_cons pe_int pa_nil)) (pa_cons (pe_tup (pa_cons pe_int (pa_cons pe_int pa_nil))) (pa_cons (pe_tup (pa_cons pe_int (pa_cons (pe_un un_negK pe_int) pa_nil))) (pa_cons (pe_tup (pa_cons pe_str (pa_cons pe_int pa_nil))) (pa_cons (pe_tup (pa_cons pe_int (pa_cons pe_str pa_nil))) (pa_cons (pe_tup (pa_cons pe_bl (pa_cons pe_int pa_nil))) (pa_cons (pe_tup (pa_cons pe_int (pa_cons pe_bl pa_nil))) (pa_cons (pe_tup (pa_cons pe_int (pa_cons pe_int (pa_cons pe_int pa_nil)))) (pa_cons (pe_ix (DK.ix (K := K)) (pv 3) pe_int (fun _ _ => rfl)) (pa_cons pe_dnewK pa_nil))))))))))))) (pg_name (i := 4) sc__law_coins_refused.nd rfl (by first | exact .inl rfl | exact .inr rfl)))
  (pss_cons (ps_for (passes_of rfl) rfl (DK.pi_seq (K := K) (pe_op (DK.op_add (K := K)) (pv 4) (pe_lst (pa_cons (pe_tup (pa_cons (pe_op (DK.op_add (K := K)) (pe_ix (DK.ix (K := K)) (pe_ix (DK.ix (K := K)) (pv 3) pe_int (fun _ _ => rfl)) pe_int (fun _ _ => rfl)) (DK.pe_fld (K := K) (pv 1))) (pa_cons pe_int pa_nil))) pa_nil)))) (pg_name (i := 5) sc__law_coins_refused.nd rfl (by first | exact .inl rfl | exact .inr rfl))
  (pss_cons (ps_asg (pe_op (DK.op_add (K := K)) pe_int (pe_cx c__law_draw hr (by omega) (by rfl) (passes_call (takes_of rfl rfl rfl rfl) (fun _ _ _ _ z => z)) (pa_cons (pv 0) (pa_cons (pe_callB (DK.len (K := K)) (by rfl) T.z_len (by decide +kernel) (pa_cons (pv 3) pa_nil)) pa_nil)))) (pg_name (i := 6) sc__law_coins_refused.nd rfl (by first | exact .inl rfl | exact .inr rfl)))
  (pss_cons (ps_asg (pe_op (DK.op_add (K := K)) (pe_op (DK.op_add (K := K)) (pe_op (DK.op_add (K := K)) (pe_slice (DK.sl (K := K)) (pv 3) po_none (po_some (pv 6))) (pe_lst (pa_cons (pv 5) pa_nil))) (pe_slice (DK.sl (K := K)) (pv 3) (po_some (pv 6)) po_none)) (pe_lst (pa_cons pe_non pa_nil))) (pg_name (i := 7) sc__law_coins_refused.nd rfl (by first | exact .inl rfl | exact .inr rfl)))
  (pss_one (ps_if (pt_not (pt_val (pe_cx c__law_same hr (by omega) (by rfl) (passes_call (takes_of rfl rfl rfl rfl) (fun _ _ _ _ z => z)) (pa_cons (DX.pe_lamT (q := qA) T.f__law_tried sc__law_tried rfl (by first | exact .inl rfl | exact .inr (.inl rfl)) (fun g cdv f c' s H tl act => d__law_tried (K := K) T rfl act) TB rfl MT HU hr (LamX.lamS_by (by first | decide +kernel | kernel_rfl)) (fun A outer s H E f c' hr => (pe_mkx c_Layers hr (by omega) (by rfl) (passes_call (takes_of rfl rfl rfl rfl) (fun _ _ _ _ z => z)) (pa_cons (pv 1) (pa_cons (pv 2) (pa_cons (pv 7) pa_nil)))))) (pa_cons (pe_tup (pa_cons pe_str (pa_cons (pv 6) pa_nil))) pa_nil)))))
  (pss_one (ps_ret pe_bl))
  pss_nil)))))
  (pss_one (ps_ret (pe_cmpR (DK.op_eq (K := K) (hr.units)) (pe_lc (own := [("_law_odd", 5)]) (g := (gName 5)) (tt := tYes) rfl sc__law_coins_refused.nd (DK.pi_tup (K := K) (pe_tup (pa_cons pe_non (pa_cons pe_int (pa_cons (pe_lst pa_nil) (pa_cons (pe_tup pa_nil) (pa_cons pe_str (pa_cons pe_dnewK pa_nil)))))))) (blkOk_by (own := [("_law_odd", 5)]) (N := n__law_coins_refused) (sc := (defScope s__law_coins_refused)) (by first | decide +kernel | kernel_rfl)) (fun _ _ _ _ _ => (pg_name (i := 5) sc__law_coins_refused.nd rfl (by first | exact .inl rfl | exact .inr rfl))) (fun _ _ _ _ _ => pts_nil) (fun _ _ _ _ _ => (DX.pe_lamT (q := qA) T.f__law_tried sc__law_tried rfl (by first | exact .inl rfl | exact .inr (.inl rfl)) (fun g cdv f c' s H tl act => d__law_tried (K := K) T rfl act) TB rfl MT HU hr (LamX.lamS_by (by first | decide +kernel | kernel_rfl)) (fun A outer s H E f c' hr => (pe_mkx c_Layers hr (by omega) (by rfl) (passes_call (takes_of rfl rfl rfl rfl) (fun _ _ _ _ z => z)) (pa_cons (pv 1) (pa_cons (pv 2) (pa_cons (pv 5) pa_nil)))))))) (pe_op op_mulK (pe_lst (pa_cons (pe_tup (pa_cons pe_str (pa_cons pe_int pa_nil))) pa_nil)) pe_int) (nomark _))))))), tab_run h fun st ls k0 as b hp hl VT SB => ?_⟩), m, F.kp, bi⟩
  obtain ⟨x, pl, rfl, hg, hp, hb⟩ := hp
  obtain ⟨p1, p2⟩ := prm_le hg.pr
  refine ws_cut (fun ς => ∃ l, LC A st x pl l (b + 200) ς ∧ lotOk x.1 l) ?_ ?_
  · refine ws_asg (we_callR SB (X := fun _ _ _ _ => False) xok0 (wl_cons (we_var rfl (wl_cons (we_fld1 (we_var rfl ⟨_, _, _, _, rfl, T.n_Gates_prime, rfl, wl_cons ?_⟩))))))
    refine we_cb (wl_cons (we_int (wl_cons (we_fld1 (we_var rfl ⟨_, _, _, _, rfl, T.n_Gates_prime, rfl, wl_nil (rc_min2 ?_)⟩)))))
    refine wl_nil ⟨rfl, ⟨st, ls, _, rfl, rfl, x.1, _, rfl, hg.pr, ⟨by split <;> omega, by split <;> omega, by split <;> omega⟩, by dsimp only; omega⟩, ?_, fun _ _ _ _ z => z⟩
    rintro d' b' ⟨a2, as2, e2, p', m', l, e3, rfl, lok, lle, hb'⟩
    cases e2
    injection e3 with e3 _
    injection e3 with e3
    subst e3
    refine wg_nm (by rfl) ?_
    dsimp only [List.set]
    exact ⟨l, .mk (by first | omega | (dsimp only at hb'; omega)), lok⟩
  rintro ς ⟨l, ⟨hb0⟩, lok⟩
  have l1 := lok.one
  have l2 := lok.few
  obtain ⟨q, hq⟩ : ∃ q, l[0]? = some q := ⟨_, List.getElem?_eq_getElem (by omega)⟩
  have aq : atI (l.map ptD) 0 = some (ptD q) := DL.atI_nat (i := 0) (by rw [List.getElem?_map, hq]; rfl)
  refine ws_seq (ws_asg (we_lst ?_))
  repeat (walk_at "s1")
  refine rd_ix (l := l.map ptD) rfl aq ?_
  refine wl_cons (we_dnew (wl_nil (szB rfl ?_)))
  refine wg_nm (by rfl) ?_
  dsimp only [List.set]
  refine ws_cut (LC A st x pl l (b + 220)) ?_ ?_
  · refine ws_for (wi_seqL (we_op (we_var rfl (we_lst ?_))))
    repeat (walk_at "s1")
    refine rd_ix (l := l.map ptD) rfl aq ?_
    repeat (walk_at "s1")
    refine rd_ix (d := .int q.1) rfl atI_0 ?_
    repeat (walk_at "s1")
    refine rd_add_lst (by rw [sizeLine_eq]; show 12 + 1 ≤ _; omega) ?_
    refine ⟨_, rfl, fun j ς => LC A st x pl l (b + 200 + j) ς, .mk hb0, ?_, fun ς z => ?_⟩
    rotate_left
    · obtain ⟨hz⟩ := z
      exact .mk (by have hz : _ ≤ b + 200 + 13 := hz; omega)
    rintro j d ς hj ⟨hb1⟩
    have hd : d ∈ someC x.1 q := List.mem_of_getElem? hj
    have jl : j < 13 := (List.getElem?_eq_some_iff.mp hj).1
    refine wg_nm (by rfl) ?_
    dsimp only [List.set]
    refine ws_seq (ws_asg (we_op (we_int (we_drawE SB (by rfl) ?_))))
    repeat (walk_at "s1")
    refine rc_len (l := l.map ptD) rfl ?_
    rw [List.length_map]
    refine ⟨_, rfl, by omega, by omega, by first | omega | (dsimp only; omega), fun y y1 y2 => ?_⟩
    obtain ⟨k, rfl⟩ := Int.eq_ofNat_of_zero_le y1
    refine rd_add_int ?_
    have e1 : (1 : Int) + (k : Int) = ((k + 1 : Nat) : Int) := by omega
    rw [e1]
    refine wg_nm (by rfl) ?_
    dsimp only [List.set]
    refine ws_seq (ws_asg (we_op (we_op (we_op ?_))))
    refine we_slL (we_var rfl (wo_none (wo_some (we_var rfl ⟨_, rfl, l.map ptD, rfl, ?_⟩))))
    rw [cut_take]
    repeat (walk_at "s1")
    refine rd_add_lst (by rw [List.length_take, List.length_map, sizeLine_eq]; show _ + 1 ≤ _; omega) ?_
    refine we_slL (we_var rfl (wo_some (we_var rfl ⟨_, rfl, wo_none ⟨l.map ptD, rfl, ?_⟩⟩)))
    rw [cut_drop]
    refine rd_add_lst (by rw [List.length_append, List.length_take, List.length_drop, List.length_map, sizeLine_eq]; show _ + 1 + _ ≤ _; omega) ?_
    repeat (walk_at "s1")
    refine rd_add_lst (by rw [List.length_append, List.length_append, List.length_take, List.length_drop, List.length_map, sizeLine_eq]; show _ + 1 + _ + 1 ≤ _; omega) ?_
    refine wg_nm (by rfl) ?_
    dsimp only [List.set]
    have er : (l.map ptD).take (k + 1) ++ [d] ++ (l.map ptD).drop (k + 1) ++ [D.non] = (l.take (k + 1)).map ptD ++ d :: ((l.drop (k + 1)).map ptD ++ [D.non]) := by
      rw [List.map_take, List.map_drop]
      simp
    rw [er]
    obtain ⟨c1, c2, c3⟩ := some_bad lok hq (k := k + 1) (by omega) hd
    have ptok : ∀ f : D → Bool, (∀ q, f (ptD q) = true) → f .non = true → ((l.drop (k + 1)).map ptD ++ [D.non]).all f = true := fun f h1 h2 => by
      rw [List.all_append, List.all_cons, h2]
      simp only [List.all_nil, Bool.and_true]
      refine List.all_eq_true.mpr fun d hd => ?_
      obtain ⟨q, _, rfl⟩ := List.mem_map.mp hd
      exact h1 q
    have gb := coin_bad (A := A) (r := (l.drop (k + 1)).map ptD ++ [D.non]) hg hp lok (at_ := k + 1) (by omega) c1 c2 c3 (ptok okO (fun _ => rfl) rfl) (ptok nLst (fun _ => rfl) rfl) (by rw [List.length_append, List.length_map, List.length_drop]; show _ + 1 ≤ _; omega)
    refine ws_if (wt_not (wt_B ?_))
    refine we_call (X := fun _ _ _ _ => False) xok0 ?_
    refine wl_cons (we_triedL T VT rfl gb (.BadCoin _) (fun c3 h3 => wl_cons (we_var rfl (wl_cons (we_var rfl (wl_cons (we_var rfl (wl_nil ⟨rfl, rfl⟩))))))) ?_)
    repeat (walk_at "s1")
    refine ⟨rfl, ⟨_, rfl, rfl⟩, ?_, fun _ _ _ _ z => z⟩
    rintro d' b' ⟨rfl, _⟩
    repeat (walk_at "s1")
    exact .mk (by first | omega | (dsimp only; omega))
  rintro ς ⟨hb1⟩
  refine ws_ret (we_op ?_)
  refine we_lcM (kg_name (by decide)) (wi_tup ?_)
  repeat (walk_at "s1")
  refine ⟨fun _ => .tup [.str "coin", .int 0], lt_size (by show 6 < 16777216; decide), fun d hd oo acc => ?_, ?_⟩
  · have gc := coins_none (A := A) hg hp hd
    refine wg_nm (by rfl) ?_
    refine we_triedL T VT rfl gc (.BadCoin _) (fun c3 h3 => wl_cons (we_var rfl (wl_cons (we_var rfl (wl_cons (we_var rfl (wl_nil ⟨rfl, rfl⟩))))))) ?_
    exact ⟨rfl, rfl, rfl⟩
  repeat (walk_at "s1")
  refine rd_rep (by omega) (by omega) (by rw [sizeLine_eq]; show 1 * 6 ≤ _; omega) ?_
  obtain ⟨s1, s2, s3⟩ := sh6
  refine rd_eq_py s1 s2 ?_
  rw [s3]
  exact ⟨rfl, by dsimp only; omega⟩
end
end K54

set_option Elab.async false
set_option linter.all false
set_option maxRecDepth 100000
set_option maxHeartbeats 4000000
namespace K54
open PySem PySem.Spec PyProof.Rows L2 DL
section
variable {P : Program} {w : World} {K : PySem.W.Frag} {mg : Str → Option Value} {base : Heap} {A : Ad}
local macro_rules | `(tactic| walk_at "s0") => `(tactic| with_reducible first
  | refine ws_seq ?_ | refine ws_next ?_ | refine ws_ret ?_ | refine ws_retN ?_ | refine ws_if ?_ | refine ws_asg ?_ | refine ws_drop ?_ | refine ws_par ?_ | refine ws_break ?_ | refine ws_cont ?_
  | refine we_var rfl ?_ | refine we_int ?_ | refine we_non ?_ | refine we_bl ?_ | refine we_str ?_ | refine we_ty ?_ | refine we_dnew ?_ | refine we_op ?_ | refine we_un ?_
  | refine we_and ?_ | refine we_or ?_ | refine we_not ?_ | refine we_if ?_ | refine we_chain ?_ | refine we_cb ?_ | refine we_tup ?_ | refine we_lst ?_
  | refine wl_cons ?_ | refine wl_nil ?_ | refine wt_B ?_ | refine wt_test ?_ | refine wt_and ?_ | refine wt_or ?_ | refine wt_not ?_ | refine wt_yes ?_
  | refine wi_tup ?_ | refine wi_list ?_ | refine wg_tup rfl ?_ | refine wgs_cons ?_ | refine wgs_nil ?_
  | refine rd_add_int ?_ | refine rd_sub ?_ | refine rd_lt ?_ | refine rd_le ?_ | refine rd_gt ?_ | refine rd_ge ?_ | refine rd_eq_int ?_ | refine rd_ne_int ?_ | refine rd_eq_str ?_ | refine rd_ne_str ?_ | refine rd_eq_bl ?_ | refine rd_ne_bl ?_ | refine rd_is ?_ | refine rd_is_bl ?_ | refine rd_isnot ?_ | refine ru_neg ?_
  | refine rc_int ?_ | refine rc_abs ?_ | refine rc_anyF ?_ | refine rc_allF ?_
  | refine brT ?_ | refine brF ?_ | refine brT' ?_ | refine brF' ?_
  | refine ⟨_, rfl, ?_⟩)
set_option hygiene false in
local macro_rules | `(tactic| walk_at "s1") => `(tactic| first
  | refine we_isiLT ?_ | refine we_isiILT ?_ | refine wi_seqV (by rfl) (by rfl) ?_ | walk_at "s0" | refine ⟨true, by rfl, ?_⟩ | refine ⟨false, by rfl, ?_⟩ | refine we_ref ?_ | refine we_fld1 ?_ | refine ⟨_, _, _, _, rfl, T.n_Gates_prime, by rfl, ?_⟩ | refine ⟨_, _, _, _, rfl, T.n_Gates_rows, by rfl, ?_⟩ | refine ⟨_, _, _, _, rfl, T.n_Gates_worths, by rfl, ?_⟩ | refine ⟨_, _, _, _, rfl, T.n_Poly_prime, by rfl, ?_⟩ | refine ⟨_, _, _, _, rfl, T.n_Poly_row, by rfl, ?_⟩ | refine ⟨_, _, _, _, rfl, T.n_Layers_net, by rfl, ?_⟩ | refine ⟨_, _, _, _, rfl, T.n_Layers_prime, by rfl, ?_⟩ | refine ⟨_, _, _, _, rfl, T.n_Layers_begin, by rfl, ?_⟩ | refine ⟨_, _, _, _, rfl, T.n_Layers_lot, by rfl, ?_⟩ | refine ⟨_, _, _, _, rfl, T.n_Layers_sizes, by rfl, ?_⟩ | refine rc_isiB (r := true) (by rfl) ?_ | refine rc_isiO T.k_Gates ?_ | refine rc_isiN T.k_Gates (by rfl) ?_ | refine rc_isiO T.k_Poly ?_ | refine rc_isiN T.k_Poly (by rfl) ?_ | refine rc_isiO T.k_Layers ?_ | refine rc_isiN T.k_Layers (by rfl) ?_ | refine we_callF (by assumption) ?_ | refine we_callF (X := fun _ _ _ _ => False) xok0 ?_ | refine we_callFl (by assumption) ?_ | refine we_callFl (X := fun _ _ _ _ => False) xok0 ?_ | refine we_makeFl (by assumption) ?_ | refine we_makeFl (X := fun _ _ _ _ => False) xok0 ?_ | refine we_makeF (by assumption) ?_ | refine we_makeF (X := fun _ _ _ _ => False) xok0 ?_ | refine DX.ws_rs (by assumption) ?_ | refine wt_test ?_ | refine co_ret rfl (by rfl) ?_ | refine wg_nm (by rfl) ?_ | refine parB (by rfl) (by rfl) ?_ | refine szB (by rfl) ?_ | refine szL (by rfl) ?_ | refine brT2 (by rfl) ?_ | refine brF2 (by rfl) ?_ | refine brT3 (by rfl) ?_ | refine brF3 (by rfl) ?_ | refine rc_isiB (r := false) (by rfl) ?_)
/-! coins thrown refused: the walk -/
def trPre (A : Ad) (as : List D) (b : Nat) : Prop := ∃ (t : Tk) (th : List Int), as = [tkD A t, .int (beatsOf t.1), iL th] ∧ tkOk t ∧ (th.length : Int) = beatsOf t.1 ∧ 1 ≤ beatsOf t.1
def trPost (as : List D) (b : Nat) (d : D) (b' : Nat) : Prop := d = .bl true ∧ b' = b
def prD (i : Int) : D := .tup [.tup [.str "thrown", .int i], .int i]
theorem pr_app (is : List Int) (i : Int) : is.map prD ++ [D.tup [.tup [.str "thrown", .int i], .int i]] = (is ++ [i]).map prD := by
  rw [List.map_append]
  rfl
def someT (B : Int) (th : List Int) : List D := [.tup [.non, .int 0], .tup [.int 5, .int 0], .tup [.str "0", .int 0], .tup [.dct [] [], .int 0], .tup [.lst [.non], .int 0], .tup [.lst [.bl true], .int 0], .tup [.lst (th.map D.int ++ [.int 0]), .int (B + 1)], .tup [iL th, .int B]]
theorem thr_some {B : Int} {th : List Int} {d : D} (hB : 1 ≤ B) (hB2 : B ≤ 250) (hl : (th.length : Int) = B) (h : d ∈ someT B th) : ∃ (o : D) (i : Int), d = .tup [o, .int i] ∧ okO o = true ∧ thrI o (B - 1) = some i ∧ (i ≠ B → thrI o B = some i) := by
  unfold someT at h
  simp only [List.mem_cons, List.not_mem_nil, or_false] at h
  rcases h with rfl | rfl | rfl | rfl | rfl | rfl | rfl | rfl
  rotate_left 6
  · have e : D.lst (th.map D.int ++ [.int 0]) = iL (th ++ [0]) := by
      show _ = D.lst ((th ++ [0]).map D.int)
      rw [List.map_append]
      rfl
    have el : (th ++ [0]).length = th.length + 1 := by rw [List.length_append]; rfl
    refine ⟨_, _, rfl, ?_, ?_, fun _ => ?_⟩
    · rw [e]; exact (inp_ok (by rw [el]; omega)).1
    · rw [e, thr_ints (by rw [el]; omega), if_pos (by rw [el]; omega), el]
      congr 1
      omega
    · rw [e, thr_ints (by rw [el]; omega), if_pos (by rw [el]; omega), el]
      congr 1
      omega
  · refine ⟨_, _, rfl, (inp_ok (by omega)).1, ?_, fun h => absurd rfl h⟩
    rw [thr_ints (by omega), if_pos (by omega)]
    congr 1
  all_goals exact ⟨_, _, rfl, rfl, rfl, fun _ => rfl⟩
theorem thr_less {xs : List Int} {m : Int} (hl : xs.length ≤ 900) : okO (.lst (xs.map D.int ++ [.str "0"])) = true ∧ thrI (.lst (xs.map D.int ++ [.str "0"])) m = some (xs.length : Int) := by
  refine ⟨?_, ?_⟩
  · show (decide ((xs.map D.int ++ [D.str "0"]).length ≤ 1000) && (xs.map D.int ++ [D.str "0"]).all fun d => (tyN d).isSome) = true
    rw [List.length_append, List.length_map, decide_eq_true (by show xs.length + 1 ≤ 1000; omega), Bool.true_and, List.all_append]
    rw [List.all_eq_true.mpr (fun d hd => by
      obtain ⟨x, _, rfl⟩ := List.mem_map.mp hd
      rfl)]
    rfl
  · unfold thrI
    have e : oddD (.lst (xs.map D.int ++ [.str "0"])) = .int (xs.length : Int) := by
      show oddO (oddI (xs.map D.int ++ [D.str "0"]) 0) = _
      rw [oddI_app rfl, Nat.zero_add]
      rfl
    rw [e]
inductive LH (A : Ad) (t : Tk) (th : List Int) (q : Addr) (is : List Int) (B : Nat) : Sta → Prop
  | mk {x5 x6 x7 x8 : Option D} : LH A t th q is B { δ := [some (tkD A t), some (.int (beatsOf t.1)), some (iL th), some (.ref q), some (.lst (someT (beatsOf t.1) th)), x5, x6, x7, x8], m := [(q, .lst (is.map prD))], b := B }
set_option maxHeartbeats 32000000 in
theorem ok_thrown_refused (T : Tx P K mg A) (TB : LamX.TabB base mg A.cL2 A.tL2) : CalX P w K mg base 11 "_law_thrown_refused" (SpTabN K 3 (tb3 A) (trPre A) trPost) := by
  have c_Layers_degree := @ok_degree P w K mg base A T
  have c_Layers_coins := @ok_coins P w K mg base A T
  have c_Layers_right := @ok_right P w K mg base A T
  have c_Layers_claims := @ok_claims P w K mg base A T
  have c_Layers_truth := @ok_truth P w K mg base A T
  have c_Layers_ends := @ok_ends P w K mg base A T
  have c__law_same := @ok_same P w K mg base A T 6
  have MT : (A.tL2, qB) ∈ tb3 A := List.mem_cons_of_mem _ List.mem_cons_self
  have HU := (hu3 T.t_ne).2.1
  obtain ⟨a, fd, F, m, bi⟩ := T.f__law_thrown_refused
  obtain ⟨oc, od, kV, doc, pm, an, cdv, ct, osl, rfl, lk, hcd⟩ := F.ex
  have hcv : cdv = .ref A.cL2 := by
    obtain ⟨cc, rfl⟩ := He.codeIn_ref hcd
    rw [T.c_law2 _ _ _ _ _ cc m lk rfl]
  subst hcv
  refine ⟨a, _, _, fn_of lk hcd sc__law_thrown_refused (fun vs H Q E h => h.1) (fun A' outer s H vs Q E hr h => ⟨_, (pss_cons (ps_asg (pe_lst pa_nil) (pg_name (i := 3) sc__law_thrown_refused.nd rfl (by first | exact .inl rfl | exact .inr rfl)))
  (pss_cons (ps_asg (pe_lst (pa_cons (pe_tup (pa_cons pe_non (pa_cons pe_int pa_nil))) (pa_cons (pe_tup (pa_cons pe_int (pa_cons pe_int pa_nil))) (pa_cons (pe_tup (pa_cons pe_str (pa_cons pe_int pa_nil))) (pa_cons (pe_tup (pa_cons pe_dnewK (pa_cons pe_int pa_nil))) (pa_cons (pe_tup (pa_cons (pe_lst (pa_cons pe_non pa_nil)) (pa_cons pe_int pa_nil))) (pa_cons (pe_tup (pa_cons (pe_lst (pa_cons pe_bl pa_nil)) (pa_cons pe_int pa_nil))) (pa_cons (pe_tup (pa_cons (pe_op (DK.op_add (K := K)) (pv 2) (pe_lst (pa_cons pe_int pa_nil))) (pa_cons (pe_op (DK.op_add (K := K)) (pv 1) pe_int) pa_nil))) (pa_cons (pe_tup (pa_cons (pv 2) (pa_cons (pv 1) pa_nil))) pa_nil))))))))) (pg_name (i := 4) sc__law_thrown_refused.nd rfl (by first | exact .inl rfl | exact .inr rfl)))
  (pss_cons (ps_for (passes_of rfl) rfl (DK.pi_seq (K := K) (pv 4)) (DK.pg_tup (K := K) rfl (pgs_cons (pg_name (i := 6) sc__law_thrown_refused.nd rfl (by first | exact .inl rfl | exact .inr rfl)) (pgs_cons (pg_name (i := 7) sc__law_thrown_refused.nd rfl (by first | exact .inl rfl | exact .inr rfl)) pgs_nil)))
  (pss_cons (ps_expr (pe_bm PySem.F.plainAttrs_list PySem.F.slot_list_append PySem.F.type_list_append mt_append (pv 3) (pa_cons (pe_tup (pa_cons (DX.pe_lamT (q := qB) T.f__law_tried sc__law_tried rfl (by first | exact .inl rfl | exact .inr (.inl rfl)) (fun g cdv f c' s H tl act => d__law_tried (K := K) T rfl act) TB rfl MT HU hr (LamX.lamS_by (by first | decide +kernel | kernel_rfl)) (fun A outer s H E f c' hr => (pe_mtx (pv 0) c_Layers_degree hr (by omega) (passes_call (takes_of rfl rfl rfl rfl) (fun _ _ _ _ z => z)) (pa_cons (pv 6) pa_nil)))) (pa_cons (pv 7) pa_nil))) pa_nil)))
  (pss_cons (ps_expr (pe_bm PySem.F.plainAttrs_list PySem.F.slot_list_append PySem.F.type_list_append mt_append (pv 3) (pa_cons (pe_tup (pa_cons (DX.pe_lamT (q := qB) T.f__law_tried sc__law_tried rfl (by first | exact .inl rfl | exact .inr (.inl rfl)) (fun g cdv f c' s H tl act => d__law_tried (K := K) T rfl act) TB rfl MT HU hr (LamX.lamS_by (by first | decide +kernel | kernel_rfl)) (fun A outer s H E f c' hr => (pe_mtx (pv 0) c_Layers_coins hr (by omega) (passes_call (takes_of rfl rfl rfl rfl) (fun _ _ _ _ z => z)) (pa_cons (pv 6) pa_nil)))) (pa_cons (pv 7) pa_nil))) pa_nil)))
  (pss_cons (ps_expr (pe_bm PySem.F.plainAttrs_list PySem.F.slot_list_append PySem.F.type_list_append mt_append (pv 3) (pa_cons (pe_tup (pa_cons (DX.pe_lamT (q := qB) T.f__law_tried sc__law_tried rfl (by first | exact .inl rfl | exact .inr (.inl rfl)) (fun g cdv f c' s H tl act => d__law_tried (K := K) T rfl act) TB rfl MT HU hr (LamX.lamS_by (by first | decide +kernel | kernel_rfl)) (fun A outer s H E f c' hr => (pe_mtx (pv 0) c_Layers_right hr (by omega) (passes_call (takes_of rfl rfl rfl rfl) (fun _ _ _ _ z => z)) (pa_cons (pv 6) pa_nil)))) (pa_cons (pv 7) pa_nil))) pa_nil)))
  (pss_cons (ps_expr (pe_bm PySem.F.plainAttrs_list PySem.F.slot_list_append PySem.F.type_list_append mt_append (pv 3) (pa_cons (pe_tup (pa_cons (DX.pe_lamT (q := qB) T.f__law_tried sc__law_tried rfl (by first | exact .inl rfl | exact .inr (.inl rfl)) (fun g cdv f c' s H tl act => d__law_tried (K := K) T rfl act) TB rfl MT HU hr (LamX.lamS_by (by first | decide +kernel | kernel_rfl)) (fun A outer s H E f c' hr => (pe_mtx (pv 0) c_Layers_claims hr (by omega) (passes_call (takes_of rfl rfl rfl rfl) (fun _ _ _ _ z => z)) (pa_cons (pv 6) (pa_cons pe_non pa_nil))))) (pa_cons (pv 7) pa_nil))) pa_nil)))
  (pss_one (ps_if (pt_cmpR (DK.op_ne (K := K) (hr.units)) (pv 7) (pv 1) (nomark _))
  (pss_cons (ps_expr (pe_bm PySem.F.plainAttrs_list PySem.F.slot_list_append PySem.F.type_list_append mt_append (pv 3) (pa_cons (pe_tup (pa_cons (DX.pe_lamT (q := qB) T.f__law_tried sc__law_tried rfl (by first | exact .inl rfl | exact .inr (.inl rfl)) (fun g cdv f c' s H tl act => d__law_tried (K := K) T rfl act) TB rfl MT HU hr (LamX.lamS_by (by first | decide +kernel | kernel_rfl)) (fun A outer s H E f c' hr => (pe_mtx (pv 0) c_Layers_truth hr (by omega) (passes_call (takes_of rfl rfl rfl rfl) (fun _ _ _ _ z => z)) (pa_cons (pv 6) pa_nil)))) (pa_cons (pv 7) pa_nil))) pa_nil)))
  (pss_one (ps_expr (pe_bm PySem.F.plainAttrs_list PySem.F.slot_list_append PySem.F.type_list_append mt_append (pv 3) (pa_cons (pe_tup (pa_cons (DX.pe_lamT (q := qB) T.f__law_tried sc__law_tried rfl (by first | exact .inl rfl | exact .inr (.inl rfl)) (fun g cdv f c' s H tl act => d__law_tried (K := K) T rfl act) TB rfl MT HU hr (LamX.lamS_by (by first | decide +kernel | kernel_rfl)) (fun A outer s H E f c' hr => (pe_mtx (pv 0) c_Layers_ends hr (by omega) (passes_call (takes_of rfl rfl rfl rfl) (fun _ _ _ _ z => z)) (pa_cons (pv 6) (pa_cons pe_non pa_nil))))) (pa_cons (pv 7) pa_nil))) pa_nil)))))
  pss_nil)))))))
  (pss_cons (ps_for (passes_of rfl) rfl (pi_range1 (by rfl) T.z_range (pa_cons (pv 1) pa_nil)) (pg_name (i := 5) sc__law_thrown_refused.nd rfl (by first | exact .inl rfl | exact .inr rfl))
  (pss_cons (ps_expr (pe_bm PySem.F.plainAttrs_list PySem.F.slot_list_append PySem.F.type_list_append mt_append (pv 3) (pa_cons (pe_tup (pa_cons (DX.pe_lamT (q := qB) T.f__law_tried sc__law_tried rfl (by first | exact .inl rfl | exact .inr (.inl rfl)) (fun g cdv f c' s H tl act => d__law_tried (K := K) T rfl act) TB rfl MT HU hr (LamX.lamS_by (by first | decide +kernel | kernel_rfl)) (fun A outer s H E f c' hr => (pe_mtx (pv 0) c_Layers_ends hr (by omega) (passes_call (takes_of rfl rfl rfl rfl) (fun _ _ _ _ z => z)) (pa_cons (pe_slice (DK.sl (K := K)) (pv 2) po_none (po_some (pv 5))) (pa_cons pe_non pa_nil))))) (pa_cons (pv 5) pa_nil))) pa_nil)))
  (pss_one (ps_expr (pe_bm PySem.F.plainAttrs_list PySem.F.slot_list_append PySem.F.type_list_append mt_append (pv 3) (pa_cons (pe_tup (pa_cons (DX.pe_lamT (q := qB) T.f__law_tried sc__law_tried rfl (by first | exact .inl rfl | exact .inr (.inl rfl)) (fun g cdv f c' s H tl act => d__law_tried (K := K) T rfl act) TB rfl MT HU hr (LamX.lamS_by (by first | decide +kernel | kernel_rfl)) (fun A outer s H E f c' hr => (pe_mtx (pv 0) c_Layers_degree hr (by omega) (passes_call (takes_of rfl rfl rfl rfl) (fun _ _ _ _ z => z)) (pa_cons (pe_op (DK.op_add (K := K)) (pe_slice (DK.sl (K := K)) (pv 2) po_none (po_some (pv 5))) (pe_lst (pa_cons pe_str pa_nil))) pa_nil)))) (pa_cons (pv 5) pa_nil))) pa_nil))))))
  (pss_one (ps_ret (pe_callB (DK.all (K := K)) (by rfl) T.z_all (by decide +kernel) (pa_cons (pe_lc (own := [("_law_found", 8), ("_law_due", 7)]) (g := (gTup K 2 (gCons (gName 8) (gCons (gName 7) gNil)))) (tt := tYes) rfl sc__law_thrown_refused.nd (DK.pi_seq (K := K) (pv 3)) (blkOk_by (own := [("_law_found", 8), ("_law_due", 7)]) (N := n__law_thrown_refused) (sc := (defScope s__law_thrown_refused)) (by first | decide +kernel | kernel_rfl)) (fun _ _ _ _ _ => (DK.pg_tup (K := K) rfl (pgs_cons (pg_name (i := 8) sc__law_thrown_refused.nd rfl (by first | exact .inl rfl | exact .inr rfl)) (pgs_cons (pg_name (i := 7) sc__law_thrown_refused.nd rfl (by first | exact .inl rfl | exact .inr rfl)) pgs_nil)))) (fun _ _ _ _ _ => pts_nil) (fun _ _ _ _ _ => (pe_cx c__law_same hr (by omega) (by rfl) passL (pa_cons (pv 8) (pa_cons (pe_tup (pa_cons pe_str (pa_cons (pv 7) pa_nil))) pa_nil))))) pa_nil)))))))), tabN_run h fun st ls k0 as b hp hl VT SB => ?_⟩), m, F.kp, bi⟩
  obtain ⟨t, th, rfl, ht, hth, hB⟩ := hp
  have hB2 := (beats_le ht.net.ok).2
  refine ws_seq (ws_asg (we_lstM (wl_nil (szB rfl fun q nq => ?_))))
  refine wg_nm (by rfl) ?_
  dsimp only [List.set]
  refine ws_cut (LH A t th q [] b) ?_ ?_
  · refine ws_asg (we_lst ?_)
    repeat (walk_at "s1")
    refine rd_add_lst (by rw [List.length_map, sizeLine_eq]; show _ + 1 ≤ _; omega) ?_
    repeat (walk_at "s1")
    exact .mk
  rintro ς ⟨⟩
  refine ws_cut (fun ς => ∃ is, LH A t th q is b ς ∧ is.length ≤ 48) ?_ ?_
  · refine ws_for (wi_seqL (we_var rfl ⟨_, rfl, ?_⟩))
    refine ⟨fun j ς => ∃ is, LH A t th q is b ς ∧ is.length ≤ 6 * j, ⟨[], .mk, Nat.zero_le _⟩, ?_, fun ς z => z⟩
    rintro j d ς hj ⟨is, ⟨⟩, li⟩
    have jl : j < 8 := (List.getElem?_eq_some_iff.mp hj).1
    obtain ⟨o, i, rfl, ok, h1, h2⟩ := thr_some hB hB2 hth (List.mem_of_getElem? hj)
    have gd := gRef_eq (A := A) ht ok h1
    have gc := gRefC_eq (A := A) (m := .non) ht ok h1
    refine wg_tup rfl (wgs_cons (wg_nm (by rfl) (wgs_cons (wg_nm (by rfl) (wgs_nil ?_)))))
    dsimp only [List.set]
    refine ws_seq (ws_append (j := 0) (o := q) (ds := is.map prD) (fun _ _ _ z => (nomatch z)) ?_)
    refine we_var rfl ⟨rfl, ⟨_, rfl⟩, we_tup (wl_cons ?_)⟩
    refine we_triedMt T VT rfl (by decide) gd (.BadThrown _) (fun c3 h3 Φ' z => we_var rfl z) (fun c3 h3 => wl_cons (we_var rfl (wl_nil ⟨rfl, rfl⟩))) ?_
    refine wl_cons (we_var rfl (wl_nil (szB rfl ⟨rfl, lt_size (by rw [List.length_map]; omega), ?_⟩)))
    dsimp only [List.set]
    rw [pr_app]
    refine ws_seq (ws_append (j := 0) (o := q) (ds := (is ++ [i]).map prD) (fun _ _ _ z => (nomatch z)) ?_)
    refine we_var rfl ⟨rfl, ⟨_, rfl⟩, we_tup (wl_cons ?_)⟩
    refine we_triedMt T VT rfl (by decide) gd (.BadThrown _) (fun c3 h3 Φ' z => we_var rfl z) (fun c3 h3 => wl_cons (we_var rfl (wl_nil ⟨rfl, rfl⟩))) ?_
    refine wl_cons (we_var rfl (wl_nil (szB rfl ⟨rfl, lt_size (by rw [List.length_map, List.length_append]; show _ + 1 < _; omega), ?_⟩)))
    dsimp only [List.set]
    rw [pr_app]
    refine ws_seq (ws_append (j := 0) (o := q) (ds := (is ++ [i] ++ [i]).map prD) (fun _ _ _ z => (nomatch z)) ?_)
    refine we_var rfl ⟨rfl, ⟨_, rfl⟩, we_tup (wl_cons ?_)⟩
    refine we_triedMt T VT rfl (by decide) gd (.BadThrown _) (fun c3 h3 Φ' z => we_var rfl z) (fun c3 h3 => wl_cons (we_var rfl (wl_nil ⟨rfl, rfl⟩))) ?_
    refine wl_cons (we_var rfl (wl_nil (szB rfl ⟨rfl, lt_size (by rw [List.length_map, List.length_append, List.length_append]; show _ + 1 + 1 < _; omega), ?_⟩)))
    dsimp only [List.set]
    rw [pr_app]
    refine ws_seq (ws_append (j := 0) (o := q) (ds := (is ++ [i] ++ [i] ++ [i]).map prD) (fun _ _ _ z => (nomatch z)) ?_)
    refine we_var rfl ⟨rfl, ⟨_, rfl⟩, we_tup (wl_cons ?_)⟩
    refine we_triedMt T VT rfl (by decide) gc (.BadThrown _) (fun c3 h3 Φ' z => we_var rfl z) (fun c3 h3 => wl_cons (we_var rfl (wl_cons (we_non (wl_nil ⟨rfl, rfl⟩))))) ?_
    refine wl_cons (we_var rfl (wl_nil (szB rfl ⟨rfl, lt_size (by rw [List.length_map, List.length_append, List.length_append, List.length_append]; show _ + 1 + 1 + 1 < _; omega), ?_⟩)))
    dsimp only [List.set]
    rw [pr_app]
    have l4 : (is ++ [i] ++ [i] ++ [i] ++ [i]).length = is.length + 4 := by simp
    generalize is ++ [i] ++ [i] ++ [i] ++ [i] = is4 at l4
    refine ws_if (wt_test (we_op (we_var rfl (we_var rfl (rd_ne_int ⟨_, rfl, ?_⟩)))))
    refine brN (fun hz => ?_) (fun hz => ?_)
    rotate_left
    · refine ws_next ?_
      exact ⟨is4, .mk, by omega⟩
    have h2 := h2 hz
    have gt : gRef A 0 [tkD A t, o] = some (.exc A.BadThrown ["index"] [.int i]) := gRef_eq (A := A) ht ok (by rw [Int.sub_zero]; exact h2)
    have ge : gEnds A [tkD A t, o, .non] = some (.exc A.BadThrown ["index"] [.int i]) := by
      rw [gEnds_eq ht ok rfl rfl]
      unfold endO
      rw [h2]
    refine ws_seq (ws_append (j := 0) (o := q) (ds := is4.map prD) (fun _ _ _ z => (nomatch z)) ?_)
    refine we_var rfl ⟨rfl, ⟨_, rfl⟩, we_tup (wl_cons ?_)⟩
    refine we_triedMt T VT rfl (by decide) gt (.BadThrown _) (fun c3 h3 Φ' z => we_var rfl z) (fun c3 h3 => wl_cons (we_var rfl (wl_nil ⟨rfl, rfl⟩))) ?_
    refine wl_cons (we_var rfl (wl_nil (szB rfl ⟨rfl, lt_size (by rw [List.length_map]; omega), ?_⟩)))
    dsimp only [List.set]
    rw [pr_app]
    refine ws_append (j := 0) (o := q) (ds := (is4 ++ [i]).map prD) (fun _ _ _ z => (nomatch z)) ?_
    refine we_var rfl ⟨rfl, ⟨_, rfl⟩, we_tup (wl_cons ?_)⟩
    refine we_triedMt T VT rfl (by decide) ge (.BadThrown _) (fun c3 h3 Φ' z => we_var rfl z) (fun c3 h3 => wl_cons (we_var rfl (wl_cons (we_non (wl_nil ⟨rfl, rfl⟩))))) ?_
    refine wl_cons (we_var rfl (wl_nil (szB rfl ⟨rfl, lt_size (by rw [List.length_map, List.length_append]; show _ + 1 < _; omega), ?_⟩)))
    dsimp only [List.set]
    rw [pr_app]
    exact ⟨_, .mk, by rw [List.length_append, List.length_append]; show _ + 1 + 1 ≤ _; omega⟩
  rintro ς ⟨is, ⟨⟩, li⟩
  refine ws_cut (fun ς => ∃ is, LH A t th q is b ς ∧ is.length ≤ 600) ?_ ?_
  · refine ws_for (wi_rng1 (wl_cons (we_var rfl (wl_nil ⟨_, rfl, by omega, by omega, ?_⟩))))
    refine ⟨fun j ς => ∃ is, LH A t th q is b ς ∧ is.length ≤ 48 + 2 * j, ⟨is, .mk, by omega⟩, ?_, fun ς z => ?_⟩
    rotate_left
    · obtain ⟨is, z, hz⟩ := z
      rw [rngD_len] at hz
      exact ⟨is, z, by omega⟩
    rintro k d ς hk ⟨is, ⟨⟩, li⟩
    obtain ⟨ed, hk2⟩ := rngD_get hk
    rw [Int.zero_add] at ed
    subst ed
    have tl : (th.take k).length = k := by rw [List.length_take]; omega
    have ge := ends_less (A := A) (xs := th.take k) ht (by rw [tl]; omega)
    obtain ⟨ok, h1⟩ := thr_less (xs := th.take k) (m := beatsOf t.1 - 1) (by rw [tl]; omega)
    have gd := gRef_eq (A := A) ht ok h1
    rw [tl] at ge gd
    refine wg_nm (by rfl) ?_
    dsimp only [List.set]
    refine ws_seq (ws_append (j := 0) (o := q) (ds := is.map prD) (fun _ _ _ z => (nomatch z)) ?_)
    refine we_var rfl ⟨rfl, ⟨_, rfl⟩, we_tup (wl_cons ?_)⟩
    refine we_triedMt T VT rfl (by decide) ge (.BadThrown _) (fun c3 h3 Φ' z => we_var rfl z) (fun c3 h3 => ?_) ?_
    · obtain ⟨K3, R3, k3, hh3, f3, b3⟩ := c3
      have h3 : K3 = K := h3
      subst h3
      dsimp only
      refine wl_cons (we_slL (we_var rfl (wo_none (wo_some (we_var rfl ⟨_, rfl, th.map D.int, rfl, ?_⟩)))))
      rw [cut_take, ← List.map_take]
      exact wl_cons (we_non (wl_nil ⟨rfl, rfl⟩))
    refine wl_cons (we_var rfl (wl_nil (szB rfl ⟨rfl, lt_size (by rw [List.length_map]; omega), ?_⟩)))
    dsimp only [List.set]
    rw [pr_app]
    refine ws_append (j := 0) (o := q) (ds := (is ++ [(k : Int)]).map prD) (fun _ _ _ z => (nomatch z)) ?_
    refine we_var rfl ⟨rfl, ⟨_, rfl⟩, we_tup (wl_cons ?_)⟩
    refine we_triedMt T VT rfl (by decide) gd (.BadThrown _) (fun c3 h3 Φ' z => we_var rfl z) (fun c3 h3 => ?_) ?_
    · obtain ⟨K3, R3, k3, hh3, f3, b3⟩ := c3
      have h3 : K3 = K := h3
      subst h3
      dsimp only
      refine wl_cons (we_op (we_slL (we_var rfl (wo_none (wo_some (we_var rfl ⟨_, rfl, th.map D.int, rfl, ?_⟩))))))
      rw [cut_take, ← List.map_take]
      refine we_lst (wl_cons (we_str (wl_nil (szB rfl ?_))))
      refine rd_add_lst (by rw [List.length_map, tl, sizeLine_eq]; show _ + 1 ≤ _; omega) ?_
      exact wl_nil ⟨rfl, rfl⟩
    refine wl_cons (we_var rfl (wl_nil (szB rfl ⟨rfl, lt_size (by rw [List.length_map, List.length_append]; show _ + 1 < _; omega), ?_⟩)))
    dsimp only [List.set]
    rw [pr_app]
    exact ⟨_, .mk, by rw [List.length_append, List.length_append]; show _ + 1 + 1 ≤ _; omega⟩
  rintro ς ⟨is, ⟨⟩, li⟩
  refine ws_freeze (i := 3) (j := 0) rfl rfl rfl ?_
  dsimp only [List.set, List.eraseIdx]
  refine ws_ret (we_cb (wl_cons ?_))
  refine we_lcM (kg_tup (kgs_cons (by decide) (kgs_cons (by decide) kgs_nil))) (wi_seqV (by rfl) (by rfl) ?_)
  refine ⟨fun _ => .bl true, lt_size (by rw [List.length_map]; omega), fun d hd oo acc => ?_, ?_⟩
  · obtain ⟨i, _, rfl⟩ := List.mem_map.mp hd
    refine wg_tup rfl ?_
    repeat (walk_at "s1")
    refine we_call (X := fun _ _ _ _ => False) xok0 ?_
    repeat (walk_at "s1")
    refine ⟨rfl, ⟨_, rfl, rfl⟩, ?_, fun _ _ _ _ z => z⟩
    rintro d b' ⟨rfl, _⟩
    exact ⟨rfl, rfl, rfl⟩
  refine wl_nil (rc_allF (f := fun _ => true) ?_)
  refine ⟨?_, rfl⟩
  have e : (is.map prD).all (fun _ => true) = true := by simp
  rw [e]
end
end K54

set_option Elab.async false
set_option linter.all false
set_option maxRecDepth 100000
set_option maxHeartbeats 4000000
namespace K54
open PySem PySem.Spec PyProof.Rows L2 DL
section
variable {P : Program} {w : World} {K : PySem.W.Frag} {mg : Str → Option Value} {base : Heap} {A : Ad}
local macro_rules | `(tactic| walk_at "s0") => `(tactic| with_reducible first
  | refine ws_seq ?_ | refine ws_next ?_ | refine ws_ret ?_ | refine ws_retN ?_ | refine ws_if ?_ | refine ws_asg ?_ | refine ws_drop ?_ | refine ws_par ?_ | refine ws_break ?_ | refine ws_cont ?_
  | refine we_var rfl ?_ | refine we_int ?_ | refine we_non ?_ | refine we_bl ?_ | refine we_str ?_ | refine we_ty ?_ | refine we_dnew ?_ | refine we_op ?_ | refine we_un ?_
  | refine we_and ?_ | refine we_or ?_ | refine we_not ?_ | refine we_if ?_ | refine we_chain ?_ | refine we_cb ?_ | refine we_tup ?_ | refine we_lst ?_
  | refine wl_cons ?_ | refine wl_nil ?_ | refine wt_B ?_ | refine wt_test ?_ | refine wt_and ?_ | refine wt_or ?_ | refine wt_not ?_ | refine wt_yes ?_
  | refine wi_tup ?_ | refine wi_list ?_ | refine wg_tup rfl ?_ | refine wgs_cons ?_ | refine wgs_nil ?_
  | refine rd_add_int ?_ | refine rd_sub ?_ | refine rd_lt ?_ | refine rd_le ?_ | refine rd_gt ?_ | refine rd_ge ?_ | refine rd_eq_int ?_ | refine rd_ne_int ?_ | refine rd_eq_str ?_ | refine rd_ne_str ?_ | refine rd_eq_bl ?_ | refine rd_ne_bl ?_ | refine rd_is ?_ | refine rd_is_bl ?_ | refine rd_isnot ?_ | refine ru_neg ?_
  | refine rc_int ?_ | refine rc_abs ?_ | refine rc_anyF ?_ | refine rc_allF ?_
  | refine brT ?_ | refine brF ?_ | refine brT' ?_ | refine brF' ?_
  | refine ⟨_, rfl, ?_⟩)
set_option hygiene false in
local macro_rules | `(tactic| walk_at "s1") => `(tactic| first
  | refine we_isiLT ?_ | refine we_isiILT ?_ | refine wi_seqV (by rfl) (by rfl) ?_ | walk_at "s0" | refine ⟨true, by rfl, ?_⟩ | refine ⟨false, by rfl, ?_⟩ | refine we_ref ?_ | refine we_fld1 ?_ | refine ⟨_, _, _, _, rfl, T.n_Gates_prime, by rfl, ?_⟩ | refine ⟨_, _, _, _, rfl, T.n_Gates_rows, by rfl, ?_⟩ | refine ⟨_, _, _, _, rfl, T.n_Gates_worths, by rfl, ?_⟩ | refine ⟨_, _, _, _, rfl, T.n_Poly_prime, by rfl, ?_⟩ | refine ⟨_, _, _, _, rfl, T.n_Poly_row, by rfl, ?_⟩ | refine ⟨_, _, _, _, rfl, T.n_Layers_net, by rfl, ?_⟩ | refine ⟨_, _, _, _, rfl, T.n_Layers_prime, by rfl, ?_⟩ | refine ⟨_, _, _, _, rfl, T.n_Layers_begin, by rfl, ?_⟩ | refine ⟨_, _, _, _, rfl, T.n_Layers_lot, by rfl, ?_⟩ | refine ⟨_, _, _, _, rfl, T.n_Layers_sizes, by rfl, ?_⟩ | refine rc_isiB (r := true) (by rfl) ?_ | refine rc_isiO T.k_Gates ?_ | refine rc_isiN T.k_Gates (by rfl) ?_ | refine rc_isiO T.k_Poly ?_ | refine rc_isiN T.k_Poly (by rfl) ?_ | refine rc_isiO T.k_Layers ?_ | refine rc_isiN T.k_Layers (by rfl) ?_ | refine we_callF (by assumption) ?_ | refine we_callF (X := fun _ _ _ _ => False) xok0 ?_ | refine we_callFl (by assumption) ?_ | refine we_callFl (X := fun _ _ _ _ => False) xok0 ?_ | refine we_makeFl (by assumption) ?_ | refine we_makeFl (X := fun _ _ _ _ => False) xok0 ?_ | refine we_makeF (by assumption) ?_ | refine we_makeF (X := fun _ _ _ _ => False) xok0 ?_ | refine DX.ws_rs (by assumption) ?_ | refine wt_test ?_ | refine co_ret rfl (by rfl) ?_ | refine wg_nm (by rfl) ?_ | refine parB (by rfl) (by rfl) ?_ | refine szB (by rfl) ?_ | refine szL (by rfl) ?_ | refine brT2 (by rfl) ?_ | refine brF2 (by rfl) ?_ | refine brT3 (by rfl) ?_ | refine brF3 (by rfl) ?_ | refine rc_isiB (r := false) (by rfl) ?_)
/-! the law -/
theorem bits2 {x : Net} (h : netOk x.2.1 x.2.2) : bitAt x 0 = 0 ∨ bitAt x 0 = 1 ∨ bitAt x 0 = 2 := by
  have := bitAt_le h (Nat.zero_le _)
  omega
def badQ (m : Int) (d : D) : Prop := (plcBad m d = true ∧ okO d = true) ∧ ∃ f, gFroz 6 [.tup [.str "place", d]] = some (.ret (.tup [.str "place", f])) ∧ gFroz 6 [d] = some (.ret f) ∧ okS 6 (.tup [.str "place", f]) = true
def oddsP (pl : List Int) : List D := [.non, .int 5, .str (Txt.mul "0" (pl.length : Int)), .lst (pl.map D.int ++ [.int 0]), .dct [] [], .lst (List.replicate (if ((pl.length : Nat) : Int) > 1 then ((pl.length : Nat) : Int) else 1).toNat [D.non]).flatten, .lst (List.replicate (if ((pl.length : Nat) : Int) > 1 then ((pl.length : Nat) : Int) else 1).toNat [D.bl true]).flatten]
theorem bad_plc {pl : List Int} {m : Int} {d : D} (h1 : pl.length ≤ 2) (h2 : (pl.length : Int) = m) (h : d ∈ oddsP pl) : badQ m d := by
  subst h2
  unfold oddsP at h
  match pl, h1 with
  | [], _ =>
    simp only [List.mem_cons, List.not_mem_nil, or_false] at h
    rcases h with rfl | rfl | rfl | rfl | rfl | rfl | rfl <;> exact ⟨⟨rfl, rfl⟩, _, rfl, rfl, rfl⟩
  | [a], _ =>
    simp only [List.mem_cons, List.not_mem_nil, or_false] at h
    rcases h with rfl | rfl | rfl | rfl | rfl | rfl | rfl <;> exact ⟨⟨rfl, rfl⟩, _, rfl, rfl, rfl⟩
  | [a, b], _ =>
    simp only [List.mem_cons, List.not_mem_nil, or_false] at h
    rcases h with rfl | rfl | rfl | rfl | rfl | rfl | rfl <;> exact ⟨⟨rfl, rfl⟩, _, rfl, rfl, rfl⟩
theorem mul0 {pl : List Int} (h : pl.length ≤ 2) : MulOk "0" (pl.length : Int) := by
  have : (pl.length : Int) = 0 ∨ (pl.length : Int) = 1 ∨ (pl.length : Int) = 2 := by omega
  rcases this with e | e | e <;> rw [e] <;> exact ⟨by decide, by decide, by decide⟩
theorem sh_pl {b : Int} (h : SeqAt.shaped (D.tup [.str "place", .lst [.int 0]]).toPy = true) : SeqAt.shaped (D.tup [.str "place", .lst [.int b]]).toPy = true := by
  simpa [SeqAt.shaped, D.toPy, toPyL, PyData.canLay0, PyData.canLayAll0, PyData.depth, PyData.depthAll] using h
theorem less_pl {pl : List Int} (h1 : pl.length ≤ 2) (h2 : 0 < pl.length) : SeqAt.shaped (D.tup [.str "place", iL (pl.drop 1)]).toPy = true ∧ PyData.eqv (D.tup [.str "place", iL (pl.drop 1)]).toPy (D.tup [.str "place", iL (pl.drop 1)]).toPy = true ∧ plcBad (pl.length : Int) (iL (pl.drop 1)) = true ∧ okO (iL (pl.drop 1)) = true := by
  match pl, h1 with
  | [a], _ => exact ⟨(by show SeqAt.shaped (D.tup [.str "place", .lst []]).toPy = true; decide +kernel), (by show PyData.eqv (D.tup [.str "place", .lst []]).toPy (D.tup [.str "place", .lst []]).toPy = true; decide +kernel), rfl, rfl⟩
  | [a, b], _ => exact ⟨sh_pl (by decide +kernel), by simp [D.toPy, toPyL, PyData.eqv, PyData.eqvAll], rfl, rfl⟩
theorem prm_of {d : D} (h : d ∈ [D.int 2, .int 3, .int 5, .int 7]) : ∃ p, d = .int p ∧ isPrm p = true := by
  simp only [List.mem_cons, List.not_mem_nil, or_false] at h
  rcases h with rfl | rfl | rfl | rfl <;> exact ⟨_, rfl, by decide⟩
def oddC : List D := [.non, .str "1", .bl true, .tup [.int 1], .lst [.int 1], .dct [] []]
theorem odd_c {d : D} (h : d ∈ oddC) : (tyN d).isSome = true ∧ isIntD d = false := by
  unfold oddC at h
  simp only [List.mem_cons, List.not_mem_nil, or_false] at h
  rcases h with rfl | rfl | rfl | rfl | rfl | rfl <;> exact ⟨rfl, rfl⟩
theorem tw_c : (oddC.map fun d => D.tup [.str "number", d]).all (twD 8) = true := rfl
inductive LS (st : Addr) (B : Nat) : Sta → Prop
  | mk {x0 x2 x3 x4 x5 x6 x7 x8 x9 x10 x11 x12 : Option D} {b : Nat} (h : b ≤ B) : LS st B { δ := [x0, some (.ref st), x2, x3, x4, x5, x6, x7, x8, x9, x10, x11, x12], m := [], b := b }
inductive L1 (A : Ad) (st : Addr) (x : Net) (r1 r2 : D) (B : Nat) : Sta → Prop
  | mk {x0 x2 x5 x6 x7 x8 x9 x10 x11 x12 : Option D} {b : Nat} (h : b ≤ B) : L1 A st x r1 r2 B { δ := [x0, some (.ref st), x2, some (.tup [.int x.1, r1, r2]), some (nD A x), x5, x6, x7, x8, x9, x10, x11, x12], m := [], b := b }
inductive LP (A : Ad) (st : Addr) (x : Net) (pl : List Int) (r1 r2 : D) (B : Nat) : Sta → Prop
  | mk {x0 x2 x6 x7 x8 x9 x10 x11 x12 : Option D} {b : Nat} (h : b ≤ B) : LP A st x pl r1 r2 B { δ := [x0, some (.ref st), x2, some (.tup [.int x.1, r1, r2]), some (nD A x), some (iL pl), x6, x7, x8, x9, x10, x11, x12], m := [], b := b }
inductive LT (A : Ad) (st : Addr) (t : Tk) (B : Nat) : Sta → Prop
  | mk {x0 x2 x3 x4 x5 x6 x7 x9 x10 x11 x12 : Option D} {b : Nat} (h : b ≤ B) : LT A st t B { δ := [x0, some (.ref st), x2, x3, x4, x5, x6, x7, some (tkD A t), x9, x10, x11, x12], m := [], b := b }
inductive LU (A : Ad) (st : Addr) (t : Tk) (th : List Int) (B : Nat) : Sta → Prop
  | mk {x0 x2 x3 x4 x5 x6 x7 x10 x11 x12 : Option D} {b : Nat} (h : b ≤ B) : LU A st t th B { δ := [x0, some (.ref st), x2, x3, x4, x5, x6, x7, some (tkD A t), some (iL th), x10, x11, x12], m := [], b := b }
def spLaw (K : PySem.W.Frag) (A : Ad) : Sp := fun vs H Q _ => ∃ (a : Addr) (ns : List Int), vs = [.ref a] ∧ SqL K H a (ns.map V.int) ∧ H A.tL = some (.tbl #[]) ∧ H A.tL2 = some (.tbl #[]) ∧ H A.tL3 = some (.tbl #[]) ∧ ∀ H', Q (.bl true) H'
set_option maxHeartbeats 40000000 in
theorem ok_law (T : Tx P K mg A) (TB1 : LamX.TabB base mg A.cL A.tL) (TB2 : LamX.TabB base mg A.cL2 A.tL2) (TB : LamX.TabB base mg A.cL3 A.tL3) {a : Addr} {fd : FuncData} (F : Fun K "law" "law" s_law a fd) (m : mg "law" = some (.ref a)) : FnOk P w K mg base (L2.CX P w) 12 a fd ["_law_script"] (spLaw K A) := by
  have c_Gates := @ok_Gates P w K mg base A T
  have c_Gates_bits := @ok_bits P w K mg base A T
  have c_Layers := @ok_Layers P w K mg base A T
  have c_Layers_beats := @ok_beats P w K mg base A T
  have c_Layers_ends := @ok_ends P w K mg base A T
  have c__law_start := @ok_start P w K mg base A T
  have c__law_draw := @ok_draw P w K mg base A T
  have c__law_pick := @ok_pickX P w K mg base A T
  have c__law_l_plan := @ok_l_plan P w K mg base A T
  have c__law_g_lot := @ok_lot P w K mg base A T
  have c__law_coins_refused := @ok_coins_refused P w K mg base A T TB1
  have c__law_thrown_refused := @ok_thrown_refused P w K mg base A T TB2
  have c__law_same := @ok_same P w K mg base A T 6
  have c__law_frozen := @ok_frozen P w K mg base A T 6
  have MT : (A.tL3, q2) ∈ tb3 A := List.mem_cons_of_mem _ (List.mem_cons_of_mem _ List.mem_cons_self)
  have HU := (hu3 T.t_ne).2.2
  obtain ⟨oc, od, kV, doc, pm, an, cdv, ct, osl, rfl, lk, hcd⟩ := F.ex
  have hcv : cdv = .ref A.cL3 := by
    obtain ⟨cc, rfl⟩ := He.codeIn_ref hcd
    rw [T.c_law3 _ _ _ _ _ cc m lk rfl]
  subst hcv
  refine fn_of lk hcd sc_law (fun vs H Q E h => ?_) (fun A' outer s H vs Q E hr h => ⟨_, (pss_cons (ps_asg (pe_cx c__law_start hr (by omega) (by rfl) (passes_call (takes_of rfl rfl rfl rfl) (fun _ _ _ _ z => z)) (pa_cons (pv 0) pa_nil)) (pg_name (i := 1) sc_law.nd rfl (by first | exact .inl rfl | exact .inr rfl)))
  (pss_cons (ps_for (passes_of rfl) rfl (pi_range1 (by rfl) T.z_range (pa_cons pe_int pa_nil)) (pg_name (i := 2) sc_law.nd rfl (by first | exact .inl rfl | exact .inr rfl))
  (pss_cons (ps_asg (pe_cx c__law_l_plan hr (by omega) (by rfl) (passes_call (takes_of rfl rfl rfl rfl) (fun _ _ _ _ z => z)) (pa_cons (pv 1) (pa_cons (pe_cx c__law_pick hr (by omega) (by rfl) (passes_call (takes_of rfl rfl rfl rfl) (fun _ _ _ _ z => z)) (pa_cons (pv 1) (pa_cons (pe_lst (pa_cons pe_int (pa_cons pe_int (pa_cons pe_int (pa_cons pe_int pa_nil))))) pa_nil))) (pa_cons (pe_op (DK.op_add (K := K)) pe_int (pe_cx c__law_draw hr (by omega) (by rfl) (passes_call (takes_of rfl rfl rfl rfl) (fun _ _ _ _ z => z)) (pa_cons (pv 1) (pa_cons pe_int pa_nil)))) (pa_cons (pe_lst (pa_cons pe_int (pa_cons pe_int (pa_cons pe_int (pa_cons pe_int pa_nil))))) pa_nil))))) (pg_name (i := 3) sc_law.nd rfl (by first | exact .inl rfl | exact .inr rfl)))
  (pss_cons (ps_asg (pe_mkx c_Gates hr (by omega) (by rfl) (passes_call (takes_of rfl rfl rfl rfl) (fun _ _ _ _ z => z)) (pa_cons (pe_ix (DK.ix (K := K)) (pv 3) pe_int (fun _ _ => rfl)) (pa_cons (pe_ix (DK.ix (K := K)) (pv 3) pe_int (fun _ _ => rfl)) (pa_cons (pe_ix (DK.ix (K := K)) (pv 3) pe_int (fun _ _ => rfl)) pa_nil)))) (pg_name (i := 4) sc_law.nd rfl (by first | exact .inl rfl | exact .inr rfl)))
  (pss_cons (ps_asg (pe_lc (own := [("_law_k", 11)]) (g := (gName 11)) (tt := tYes) rfl sc_law.nd (pi_range1 (by rfl) T.z_range (pa_cons (pe_mtx (pv 4) c_Gates_bits hr (by omega) (passes_call (takes_of rfl rfl rfl rfl) (fun _ _ _ _ z => z)) (pa_cons pe_int pa_nil)) pa_nil)) (blkOk_by (own := [("_law_k", 11)]) (N := n_law) (sc := (defScope s_law)) (by first | decide +kernel | kernel_rfl)) (fun _ _ _ _ _ => (pg_name (i := 11) sc_law.nd rfl (by first | exact .inl rfl | exact .inr rfl))) (fun _ _ _ _ _ => pts_nil) (fun _ _ _ _ _ => (pe_cx c__law_draw hr (by omega) (by rfl) passL (pa_cons (pv 1) (pa_cons (pe_ix (DK.ix (K := K)) (pv 3) pe_int (fun _ _ => rfl)) pa_nil))))) (pg_name (i := 5) sc_law.nd rfl (by first | exact .inl rfl | exact .inr rfl)))
  (pss_cons (ps_asg (pe_callB (call_max2 rfl) (by rfl) T.z_max (by decide +kernel) (pa_cons pe_int (pa_cons (pe_callB (DK.len (K := K)) (by rfl) T.z_len (by decide +kernel) (pa_cons (pv 5) pa_nil)) pa_nil))) (pg_name (i := 6) sc_law.nd rfl (by first | exact .inl rfl | exact .inr rfl)))
  (pss_cons (ps_for (passes_of rfl) rfl (DK.pi_list (K := K) (pe_lst (pa_cons pe_non (pa_cons pe_int (pa_cons (pe_op op_mulS pe_str (pe_callB (DK.len (K := K)) (by rfl) T.z_len (by decide +kernel) (pa_cons (pv 5) pa_nil))) (pa_cons (pe_op (DK.op_add (K := K)) (pv 5) (pe_lst (pa_cons pe_int pa_nil))) (pa_cons pe_dnewK (pa_cons (pe_op op_mulK (pe_lst (pa_cons pe_non pa_nil)) (pv 6)) (pa_cons (pe_op op_mulK (pe_lst (pa_cons pe_bl pa_nil)) (pv 6)) pa_nil))))))))) (pg_name (i := 7) sc_law.nd rfl (by first | exact .inl rfl | exact .inr rfl))
  (pss_cons (ps_asg (DX.pe_lamT (q := q2) T.f__law_tried sc__law_tried rfl (by first | exact .inl rfl | exact .inr (.inl rfl)) (fun g cdv f c' s H tl act => d__law_tried (K := K) T rfl act) TB rfl MT HU hr (LamX.lamS_by (by first | decide +kernel | kernel_rfl)) (fun A outer s H E f c' hr => (pe_mkx c_Layers hr (by omega) (by rfl) (passes_call (takes_of rfl rfl rfl rfl) (fun _ _ _ _ z => z)) (pa_cons (pv 4) (pa_cons (pv 7) (pa_cons pe_non pa_nil)))))) (pg_name (i := 10) sc_law.nd rfl (by first | exact .inl rfl | exact .inr rfl)))
  (pss_one (ps_if (pt_not (pt_val (pe_cx c__law_same hr (by omega) (by rfl) (passes_call (takes_of rfl rfl rfl rfl) (fun _ _ _ _ z => z)) (pa_cons (pe_cx c__law_frozen hr (by omega) (by rfl) (passes_call (takes_of rfl rfl rfl rfl) (fun _ _ _ _ z => z)) (pa_cons (pv 10) pa_nil)) (pa_cons (pe_tup (pa_cons pe_str (pa_cons (pe_cx c__law_frozen hr (by omega) (by rfl) (passes_call (takes_of rfl rfl rfl rfl) (fun _ _ _ _ z => z)) (pa_cons (pv 7) pa_nil)) pa_nil))) pa_nil)))))
  (pss_one (ps_ret pe_bl))
  pss_nil))))
  (pss_cons (ps_if (PW.pt (pw_and (pt_cmpR op_gtK (pe_callB (DK.len (K := K)) (by rfl) T.z_len (by decide +kernel) (pa_cons (pv 5) pa_nil)) pe_int (nomark _)) (pw_and1 (pt_cmpR (DK.op_ne (K := K) (hr.units)) (DX.pe_lamT (q := q2) T.f__law_tried sc__law_tried rfl (by first | exact .inl rfl | exact .inr (.inl rfl)) (fun g cdv f c' s H tl act => d__law_tried (K := K) T rfl act) TB rfl MT HU hr (LamX.lamS_by (by first | decide +kernel | kernel_rfl)) (fun A outer s H E f c' hr => (pe_mkx c_Layers hr (by omega) (by rfl) (passes_call (takes_of rfl rfl rfl rfl) (fun _ _ _ _ z => z)) (pa_cons (pv 4) (pa_cons (pe_slice (DK.sl (K := K)) (pv 5) (po_some pe_int) po_none) (pa_cons pe_non pa_nil)))))) (pe_tup (pa_cons pe_str (pa_cons (pe_slice (DK.sl (K := K)) (pv 5) (po_some pe_int) po_none) pa_nil))) (nomark _)))))
  (pss_one (ps_ret pe_bl))
  pss_nil)
  (pss_cons (ps_if (pt_not (pt_val (pe_cx c__law_coins_refused hr (by omega) (by rfl) (passes_call (takes_of rfl rfl rfl rfl) (fun _ _ _ _ z => z)) (pa_cons (pv 1) (pa_cons (pv 4) (pa_cons (pv 5) pa_nil))))))
  (pss_one (ps_ret pe_bl))
  pss_nil)
  (pss_cons (ps_asg (pe_mkx c_Layers hr (by omega) (by rfl) (passes_call (takes_of rfl rfl rfl rfl) (fun _ _ _ _ z => z)) (pa_cons (pv 4) (pa_cons (pv 5) (pa_cons (pe_cx c__law_g_lot hr (by omega) (by rfl) (passes_call (takes_of rfl rfl rfl rfl) (fun _ _ _ _ z => z)) (pa_cons (pv 1) (pa_cons (pe_ix (DK.ix (K := K)) (pv 3) pe_int (fun _ _ => rfl)) (pa_cons (pe_callB (call_min2 rfl) (by rfl) T.z_min (by decide +kernel) (pa_cons pe_int (pa_cons (pe_ix (DK.ix (K := K)) (pv 3) pe_int (fun _ _ => rfl)) pa_nil))) pa_nil)))) pa_nil)))) (pg_name (i := 8) sc_law.nd rfl (by first | exact .inl rfl | exact .inr rfl)))
  (pss_cons (ps_asg (pe_lc (own := [("_law_k", 11)]) (g := (gName 11)) (tt := tYes) rfl sc_law.nd (pi_range1 (by rfl) T.z_range (pa_cons (pe_mtx0 (pv 8) c_Layers_beats hr (by omega) (passes_call (takes_of rfl rfl rfl rfl) (fun _ _ _ _ z => z))) pa_nil)) (blkOk_by (own := [("_law_k", 11)]) (N := n_law) (sc := (defScope s_law)) (by first | decide +kernel | kernel_rfl)) (fun _ _ _ _ _ => (pg_name (i := 11) sc_law.nd rfl (by first | exact .inl rfl | exact .inr rfl))) (fun _ _ _ _ _ => pts_nil) (fun _ _ _ _ _ => (pe_cx c__law_draw hr (by omega) (by rfl) passL (pa_cons (pv 1) (pa_cons pe_int pa_nil))))) (pg_name (i := 9) sc_law.nd rfl (by first | exact .inl rfl | exact .inr rfl)))
  (pss_cons (ps_if (pt_not (pt_val (pe_cx c__law_thrown_refused hr (by omega) (by rfl) (passes_call (takes_of rfl rfl rfl rfl) (fun _ _ _ _ z => z)) (pa_cons (pv 8) (pa_cons (pe_mtx0 (pv 8) c_Layers_beats hr (by omega) (passes_call (takes_of rfl rfl rfl rfl) (fun _ _ _ _ z => z))) (pa_cons (pv 9) pa_nil))))))
  (pss_one (ps_ret pe_bl))
  pss_nil)
  (pss_cons (ps_asg (pe_lst (pa_cons pe_non (pa_cons pe_str (pa_cons pe_bl (pa_cons (pe_tup (pa_cons pe_int pa_nil)) (pa_cons (pe_lst (pa_cons pe_int pa_nil)) (pa_cons pe_dnewK pa_nil))))))) (pg_name (i := 7) sc_law.nd rfl (by first | exact .inl rfl | exact .inr rfl)))
  (pss_one (ps_if (pt_cmpR (DK.op_neTw (K := K) (hr.units)) (pe_lc (own := [("_law_claim", 12)]) (g := (gName 12)) (tt := tYes) rfl sc_law.nd (DK.pi_seq (K := K) (pv 7)) (blkOk_by (own := [("_law_claim", 12)]) (N := n_law) (sc := (defScope s_law)) (by first | decide +kernel | kernel_rfl)) (fun _ _ _ _ _ => (pg_name (i := 12) sc_law.nd rfl (by first | exact .inl rfl | exact .inr rfl))) (fun _ _ _ _ _ => pts_nil) (fun _ _ _ _ _ => (DX.pe_lamT (q := q2) T.f__law_tried sc__law_tried rfl (by first | exact .inl rfl | exact .inr (.inl rfl)) (fun g cdv f c' s H tl act => d__law_tried (K := K) T rfl act) TB rfl MT HU hr (LamX.lamS_by (by first | decide +kernel | kernel_rfl)) (fun A outer s H E f c' hr => (pe_mtx (pv 8) c_Layers_ends hr (by omega) (passes_call (takes_of rfl rfl rfl rfl) (fun _ _ _ _ z => z)) (pa_cons (pv 9) (pa_cons (pv 12) pa_nil))))))) (pe_lc (own := [("_law_claim", 12)]) (g := (gName 12)) (tt := tYes) rfl sc_law.nd (DK.pi_seq (K := K) (pv 7)) (blkOk_by (own := [("_law_claim", 12)]) (N := n_law) (sc := (defScope s_law)) (by first | decide +kernel | kernel_rfl)) (fun _ _ _ _ _ => (pg_name (i := 12) sc_law.nd rfl (by first | exact .inl rfl | exact .inr rfl))) (fun _ _ _ _ _ => pts_nil) (fun _ _ _ _ _ => (pe_tup (pa_cons pe_str (pa_cons (pv 12) pa_nil))))) (nomark _))
  (pss_one (ps_ret pe_bl))
  pss_nil))))))))))))))
  (pss_one (ps_ret pe_bl)))), ?_⟩)
  · obtain ⟨a, ns, rfl, _⟩ := h
    rfl
  · obtain ⟨a, ns, rfl, hs, ht1, ht2, ht3, hq⟩ := h
    refine ⟨_, rfl, a, ns, rfl, hs, fun l st hl hst hne => ?_⟩
    have hT : ∀ p ∈ tb3 A, H p.1 = some (.tbl #[]) := fun p hp => by
      simp only [List.mem_cons, List.not_mem_nil, or_false] at hp
      rcases hp with rfl | rfl | rfl
      · exact ht1
      · exact ht2
      · exact ht3
    have S0 := law_srT (K := K) (Tb := tb3 A) (ns := ns) hl hst hne hT (law_slots (a := a) (st := st) (N := n_law) (n := 11) rfl).1 (law_slots (a := a) (st := st) (N := n_law) (n := 11) rfl).2
    generalize upd (upd H l (.lst (ns.map V.int))) st (.lst [.ref l, .int 0, .int 0, .int 11]) = h0 at S0
    have VT := lawCT_tab (K := K) (s := st) (l := l) (Tb := tb3 A) (h := h0)
    have H0 := lawCT_h0 (K := K) (s := st) (l := l) (Tb := tb3 A) (h := h0)
    have SB := strmT_sub (c := lawCT K st l (tb3 A) h0) (a := st) (l := l) (Tb := tb3 A) rfl rfl
    dsimp only [gName]
    refine enter (Ψ := { nx := fun _ => False, rt := fun d _ => d = .bl true }) ?_ S0 ?_
    rotate_left
    · exact ⟨fun _ _ _ _ _ _ z => z.elim, fun _ _ _ _ _ _ z => z.elim, fun _ _ _ _ _ _ z => z.elim, fun v σ' k' h' d ς' S' e r z => by
        subst z
        cases r
        exact hq h'⟩
    refine ws_cut (LS st 3000) ?_ ?_
    · refine ws_for ?_
      refine wi_rng1 ?_
      repeat (walk_at "s1")
      refine ⟨by omega, by omega, fun i => LS st (1000 * i), LS.mk (x0 := none) (Nat.le_refl _), ?_, fun ς z => z⟩
      rintro i d ς hi ⟨hb⟩
      have hi6 : i < 3 := (rngD_get hi).2
      refine wg_nm (by rfl) ?_
      dsimp only [List.set]
      refine ws_seq (ws_asg (we_callR SB (X := fun _ _ _ _ => False) xok0 (wl_cons (we_var rfl (wl_cons ?_)))))
      refine we_pickX SB (by rfl) ?_
      repeat (walk_at "s1")
      refine ⟨(by show 0 < 4; decide), (by show 4 ≤ 1000000; decide), by first | omega | (dsimp only; omega), fun x hx => ?_⟩
      obtain ⟨p, rfl, hp⟩ := prm_of hx
      obtain ⟨p1, p2⟩ := prm_le hp
      refine wl_cons (we_op (we_int ?_))
      refine we_draw SB (by rfl) (by omega) (by omega) (by first | omega | (dsimp only; omega)) fun y y1 y2 => ?_
      repeat (walk_at "s1")
      refine ⟨rfl, ⟨st, l, _, rfl, rfl, p, 1 + y, rfl, ⟨p1, p2⟩, ⟨by omega, by omega⟩, by first | omega | (dsimp only; omega)⟩, ?_, fun _ _ _ _ z => z⟩
      rintro d' b' ⟨a2, as2, e2, p', n', l', rs, inp, e3, rfl, pk, hb'⟩
      cases e2
      injection e3 with e3 _
      injection e3 with e3
      subst e3
      dsimp only at hb'
      refine wg_nm (by rfl) ?_
      dsimp only [List.set]
      obtain ⟨gm, nk⟩ := net_made (A := A) hp pk
      refine ws_seq (ws_asg (we_makeF (X := fun _ _ _ _ => False) xok0 ?_))
      repeat (walk_at "s1")
      refine rd_ix (d := .int p) rfl atI_0 ?_
      repeat (walk_at "s1")
      refine rd_ix (d := rowsD rs) rfl atI_1 ?_
      repeat (walk_at "s1")
      refine rd_ix (d := iL inp) rfl atI_2 ?_
      refine wl_nil (mk_ok rfl gm ?_)
      refine wg_nm (by rfl) ?_
      dsimp only [List.set]
      obtain ⟨x, ex⟩ : ∃ x : Net, x = (p, rs, worL p (inp.map fun x => x % p) rs) := ⟨_, rfl⟩
      refine ws_gen (L1 A st x (rowsD rs) (iL inp) (1000 * i + 200)) (by rw [ex]; exact .mk (by first | omega | (dsimp only; omega))) ?_
      have hg : netG x := ⟨by rw [ex]; exact hp, by rw [ex]; exact nk⟩
      have hn1 : 1 ≤ x.2.1.length := by
        have := pk.len
        rw [ex]
        show 1 ≤ rs.length
        omega
      generalize rowsD rs = r1
      generalize iL inp = r2
      clear gm nk ex pk hb' hp p1 p2
      obtain ⟨p1, p2⟩ := prm_le hg.pr
      rintro ς ⟨hb1⟩
      -- the place
      have gb0 := gBits_at (A := A) hg.ok (Nat.zero_le _)
      obtain ⟨c0, c1⟩ := bitAt_le hg.ok (Nat.zero_le _)
      refine ws_seq (ws_asg (we_lc (kg_name (by decide)) ?_))
      refine wi_rng1 (wl_cons ?_)
      refine we_methF (X := fun _ _ _ _ => False) xok0 (we_var rfl ⟨_, _, rfl, by decide, wl_cons (we_int (wl_nil (co_ret rfl gb0 ?_)))⟩)
      refine wl_nil ⟨_, rfl, by omega, by omega, ?_⟩
      refine ⟨fun j acc b => ∃ xs : List Int, acc = xs.map D.int ∧ xs.length = j ∧ b ≤ 1000 * i + 200 + j, ⟨[], rfl, rfl, by first | omega | (dsimp only; omega)⟩, ?_, ?_⟩
      · rintro j d acc b oo hj ⟨xs, rfl, rfl, hb'⟩
        obtain ⟨rfl, hj'⟩ := rngD_get hj
        refine wg_nm (by rfl) ?_
        refine wt_yes ⟨fun _ => ?_, fun z => (nomatch z)⟩
        refine we_drawE SB (by rfl) (we_op (we_var rfl (we_int (rd_ix (d := .int x.1) rfl atI_0 ⟨x.1, rfl, by omega, by omega, by first | omega | (dsimp only; omega), fun z z1 z2 => ?_⟩))))
        exact ⟨by rw [List.length_map]; exact lt_size (by omega), rfl, xs ++ [z], by rw [List.map_append]; rfl, by rw [List.length_append]; rfl, by first | omega | (dsimp only; omega)⟩
      rintro acc b ⟨pl, rfl, l0, hb2⟩
      rw [rngD_len] at l0 hb2
      refine wg_nm (by rfl) ?_
      dsimp only [List.set]
      have po : placeOk x pl := ⟨by omega, by omega⟩
      have pf := po.few
      refine ws_gen (LP A st x pl r1 r2 (1000 * i + 210)) (.mk (by first | omega | (dsimp only; omega))) ?_
      clear l0 hb2 hb1 gb0
      rintro ς ⟨hb1⟩
      refine ws_seq (ws_asg (we_cb (wl_cons (we_int (wl_cons (we_cb (wl_cons (we_var rfl (wl_nil (rc_lenI ?_))))))))))
      refine wl_nil (rc_max2 ?_)
      refine wg_nm (by rfl) ?_
      dsimp only [List.set]
      refine ws_cut (LP A st x pl r1 r2 (1000 * i + 210)) ?_ ?_
      · refine ws_for (wi_list ?_)
        repeat (walk_at "s1")
        refine rc_lenI ?_
        refine rd_mulS (mul0 po.few) ?_
        repeat (walk_at "s1")
        refine rd_add_lst (by rw [List.length_map, sizeLine_eq]; show _ + 1 ≤ _; omega) ?_
        repeat (walk_at "s1")
        refine rd_rep (by split <;> omega) (by split <;> omega) (by rw [sizeLine_eq]; show 1 * _ ≤ _; split <;> omega) ?_
        repeat (walk_at "s1")
        refine rd_rep (by split <;> omega) (by split <;> omega) (by rw [sizeLine_eq]; show 1 * _ ≤ _; split <;> omega) ?_
        repeat (walk_at "s1")
        refine ⟨fun j ς => LP A st x pl r1 r2 (1000 * i + 210) ς, .mk hb1, ?_, fun ς z => z⟩
        rintro j d ς hj ⟨hb2⟩
        obtain ⟨⟨h1, h2⟩, f, hf1, hf2, okf⟩ := bad_plc po.few po.len (List.mem_of_getElem? hj)
        have gb := place_bad (A := A) hg h1 h2
        refine wg_nm (by rfl) ?_
        dsimp only [List.set]
        refine ws_seq (ws_asg (we_triedL T VT rfl gb (.BadPlace _) (fun c3 h3 => wl_cons (we_var rfl (wl_cons (we_var rfl (wl_cons (we_non (wl_nil ⟨rfl, rfl⟩))))))) ?_))
        refine wg_nm (by rfl) ?_
        dsimp only [List.set]
        refine ws_if (wt_not (wt_B ?_))
        refine we_call (X := fun _ _ _ _ => False) xok0 ?_
        refine wl_cons (we_callF (X := fun _ _ _ _ => False) xok0 (wl_cons (we_var rfl (wl_nil (co_ret rfl hf1 ?_)))))
        refine wl_cons (we_tup (wl_cons (we_str (wl_cons (we_callF (X := fun _ _ _ _ => False) xok0 (wl_cons (we_var rfl (wl_nil (co_ret rfl hf2 ?_)))))))))
        refine wl_nil (szB rfl (wl_nil ⟨rfl, ⟨_, rfl, okf⟩, ?_, fun _ _ _ _ z => z⟩))
        rintro d' b' ⟨rfl, _⟩
        repeat (walk_at "s1")
        exact .mk hb2
      rintro ς ⟨hb2⟩
      refine ws_cut (LP A st x pl r1 r2 (1000 * i + 210)) ?_ ?_
      · refine ws_if (wt_and (wt_test (we_op (we_cb (wl_cons (we_var rfl (wl_nil (rc_lenI ?_))))))))
        refine we_int (rd_gt ⟨_, rfl, fun hz => ?_, fun hz => ?_⟩)
        rotate_left
        · refine ⟨fun z => (nomatch z), fun _ => ?_⟩
          refine ws_next ?_
          exact .mk hb2
        have hz : 0 < pl.length := by have := of_decide_eq_true hz; omega
        obtain ⟨s1, s2, s3, s4⟩ := less_pl po.few hz
        rw [po.len] at s3
        have gb := place_bad (A := A) hg s3 s4
        refine wt_test (we_op (we_triedL T VT rfl gb (.BadPlace _) (fun c3 h3 => ?_) ?_))
        · obtain ⟨K3, R3, k3, hh3, f3, b3⟩ := c3
          have h3 : K3 = K := h3
          subst h3
          dsimp only
          refine wl_cons (we_var rfl (wl_cons (we_slL (we_var rfl (wo_some (we_int ⟨_, rfl, wo_none ⟨pl.map D.int, rfl, ?_⟩⟩))))))
          have ec : DL.cutD (pl.map D.int) (some 1) none = (pl.drop 1).map D.int := by
            rw [List.map_drop]
            exact cut_drop (k := 1)
          rw [ec]
          exact wl_cons (we_non (wl_nil ⟨rfl, rfl⟩))
        refine we_tup (wl_cons (we_str (wl_cons (we_slL (we_var rfl (wo_some (we_int ⟨_, rfl, wo_none ⟨pl.map D.int, rfl, ?_⟩⟩)))))))
        have ec : DL.cutD (pl.map D.int) (some 1) none = (pl.drop 1).map D.int := by
          rw [List.map_drop]
          exact cut_drop (k := 1)
        rw [ec]
        refine wl_nil (szB rfl (rd_ne_py s1 s1 ?_))
        rw [s2]
        repeat (walk_at "s1")
        exact .mk hb2
      rintro ς ⟨hb2⟩
      refine ws_cut (LP A st x pl r1 r2 (1000 * i + 510)) ?_ ?_
      · refine ws_if (wt_not (wt_B ?_))
        refine we_callTab (j := 0) VT rfl H0 ?_
        refine wl_cons (we_var rfl (wl_cons (we_var rfl (wl_cons (we_var rfl (wl_nil ⟨_, rfl, rfl, rfl, ?_, ?_⟩))))))
        · exact ⟨x, pl, rfl, hg, po, by first | omega | (dsimp only; omega)⟩
        rintro d' b2 ⟨rfl, hb3⟩
        dsimp only at hb3
        refine ⟨true, rfl, ?_⟩
        refine ⟨fun z => (nomatch z), fun _ => ?_⟩
        refine ws_next ?_
        exact .mk (by first | omega | (dsimp only; omega))
      rintro ς ⟨hb3⟩
      -- the talk
      refine ws_seq (ws_asg (we_makeF (X := fun _ _ _ _ => False) xok0 (wl_cons (we_var rfl (wl_cons (we_var rfl (wl_cons ?_)))))))
      refine we_callR SB (X := fun _ _ _ _ => False) xok0 (wl_cons (we_var rfl (wl_cons (we_op (we_var rfl (we_int (rd_ix (d := .int x.1) rfl atI_0 (wl_cons ?_))))))))
      refine we_cb (wl_cons (we_int (wl_cons (we_op (we_var rfl (we_int (rd_ix (d := .int x.1) rfl atI_0 (wl_nil (rc_min2 ?_)))))))))
      refine wl_nil ⟨rfl, ⟨st, l, _, rfl, rfl, x.1, _, rfl, hg.pr, ⟨by split <;> omega, by split <;> omega, by split <;> omega⟩, by first | omega | (dsimp only; omega)⟩, ?_, fun _ _ _ _ z => z⟩
      rintro d' b' ⟨a2, as2, e2, p', m', lt, e3, rfl, lok, lle, hb'⟩
      cases e2
      injection e3 with e3 _
      injection e3 with e3
      subst e3
      dsimp only at hb'
      refine wl_nil (mk_ok rfl (talk_made (A := A) hg po lok) ?_)
      refine wg_nm (by rfl) ?_
      dsimp only [List.set]
      obtain ⟨t, et⟩ : ∃ t : Tk, t = (x, pl.map (fun y => y % x.1), (lt.map ptD).map (cnD x.1)) := ⟨_, rfl⟩
      refine ws_gen (LT A st t (1000 * i + 710)) (by rw [et]; exact .mk (by first | omega | (dsimp only; omega))) ?_
      have tk : tkOk t := ⟨by rw [et]; exact hg, by rw [et]; show (pl.map _).length ≤ 2; rw [List.length_map]; exact pf⟩
      have hn2 : 1 ≤ t.1.2.1.length := by rw [et]; exact hn1
      clear et hb' lok lle hb3 hb2 hb1
      obtain ⟨q1, q2⟩ := beats_le tk.net.ok
      have q3 : 1 ≤ beatsOf t.1 := by
        have := (sum_le (sz_bd tk.net.ok)).1
        rw [szOf_len] at this
        unfold beatsOf
        omega
      rintro ς ⟨hb1⟩
      refine ws_seq (ws_asg (we_lc (kg_name (by decide)) ?_))
      refine wi_rng1 (wl_cons ?_)
      refine we_methF (X := fun _ _ _ _ => False) xok0 (we_var rfl ⟨_, _, rfl, by decide, wl_nil (co_ret rfl (gBeats_eq t) ?_)⟩)
      refine wl_nil ⟨_, rfl, by omega, by omega, ?_⟩
      refine ⟨fun j acc b => ∃ xs : List Int, acc = xs.map D.int ∧ xs.length = j ∧ b ≤ 1000 * i + 710 + j, ⟨[], rfl, rfl, by first | omega | (dsimp only; omega)⟩, ?_, ?_⟩
      · rintro j d acc b oo hj ⟨xs, rfl, rfl, hb'⟩
        obtain ⟨rfl, hj'⟩ := rngD_get hj
        refine wg_nm (by rfl) ?_
        refine wt_yes ⟨fun _ => ?_, fun z => (nomatch z)⟩
        refine we_draw SB (by rfl) (by omega) (by omega) (by first | omega | (dsimp only; omega)) fun z z1 z2 => ?_
        exact ⟨by rw [List.length_map]; exact lt_size (by omega), rfl, xs ++ [z], by rw [List.map_append]; rfl, by rw [List.length_append]; rfl, by first | omega | (dsimp only; omega)⟩
      rintro acc b ⟨th, rfl, l0, hb2⟩
      rw [rngD_len] at l0 hb2
      refine wg_nm (by rfl) ?_
      dsimp only [List.set]
      have hth : (th.length : Int) = beatsOf t.1 := by omega
      refine ws_gen (LU A st t th (1000 * i + 970)) (.mk (by first | omega | (dsimp only; omega))) ?_
      clear l0 hb2 hb1
      rintro ς ⟨hb1⟩
      refine ws_cut (LU A st t th (1000 * i + 970)) ?_ ?_
      · refine ws_if (wt_not (wt_B ?_))
        refine we_callTabN (j := 0) VT rfl H0 ?_
        refine wl_cons (we_var rfl (wl_cons ?_))
        refine we_methF (X := fun _ _ _ _ => False) xok0 (we_var rfl ⟨_, _, rfl, by decide, wl_nil (co_ret rfl (gBeats_eq t) ?_)⟩)
        refine wl_cons (we_var rfl (wl_nil ⟨_, rfl, rfl, rfl, ?_, ?_⟩))
        · exact ⟨t, th, rfl, tk, hth, q3⟩
        rintro d' b2 ⟨rfl, hb3⟩
        dsimp only at hb3
        refine ⟨true, rfl, ?_⟩
        refine ⟨fun z => (nomatch z), fun _ => ?_⟩
        refine ws_next ?_
        exact .mk (by first | omega | (dsimp only; omega))
      rintro ς ⟨hb2⟩
      refine ws_seq (ws_asg (we_lst (wl_cons (we_non (wl_cons (we_str (wl_cons (we_bl (wl_cons ?_)))))))))
      refine we_tup (wl_cons (we_int (wl_nil (szB rfl (wl_cons ?_)))))
      refine we_lst (wl_cons (we_int (wl_nil (szB rfl (wl_cons ?_)))))
      refine we_dnew (wl_nil (szB rfl ?_))
      refine wg_nm (by rfl) ?_
      dsimp only [List.set]
      refine ws_if (wt_test (we_op ?_))
      refine we_lcM (kg_name (by decide)) (wi_seqV (by rfl) (by rfl) ?_)
      refine ⟨fun d => .tup [.str "number", d], lt_size (by show 6 < 16777216; decide), fun d hd oo acc => ?_, ?_⟩
      · obtain ⟨t1, t2⟩ := odd_c (show d ∈ oddC from hd)
        have ge := ends_full (A := A) (m := d) tk hth t1 t2
        refine wg_nm (by rfl) ?_
        refine we_triedMt T VT rfl (by decide) ge (.BadNumber _) (fun c3 h3 Φ' z => we_var rfl z) (fun c3 h3 => wl_cons (we_var rfl (wl_cons (we_var rfl (wl_nil ⟨rfl, rfl⟩))))) ?_
        exact ⟨rfl, rfl, rfl⟩
      refine we_lcM (kg_name (by decide)) (wi_seqV (by rfl) (by rfl) ?_)
      refine ⟨fun d => .tup [.str "number", d], lt_size (by show 6 < 16777216; decide), fun d hd oo acc => ?_, ?_⟩
      · refine wg_nm (by rfl) ?_
        exact we_tup (wl_cons (we_str (wl_cons (we_var rfl (wl_nil (szB rfl ⟨rfl, rfl, rfl⟩))))))
      refine rd_neTw (l := oddC.map fun d => D.tup [.str "number", d]) tw_c ⟨false, rfl, ?_⟩
      refine ⟨fun z => (nomatch z), fun _ => ?_⟩
      refine ws_next ?_
      exact .mk (by first | omega | (dsimp only; omega))
    · rintro ς ⟨hb⟩
      repeat (walk_at "s1")
      exact rfl
end
end K54

set_option Elab.async false
set_option linter.all false
set_option maxRecDepth 100000
set_option maxHeartbeats 4000000
namespace K54
open PySem PySem.Spec PyProof.Rows L2 DL
def adK (K : PySem.W.Frag) : Ad := ⟨He.ga K "TalkError", He.ga K "BadPrime", He.ga K "BadNumber", He.ga K "BadNumbers", He.ga K "UnlikePrimes", He.ga K "BadCoin", He.ga K "BadThrown", He.ga K "BadLayer", He.ga K "BadInputs", He.ga K "BadGate", He.ga K "NoLayer", He.ga K "BadPlace", He.ga K "Gates", He.ga K "Poly", He.ga K "Layers", He.ga K "BITS", He.codeOf K ("_law_coins_refused", none), He.tabOf K (He.codeOf K ("_law_coins_refused", none)), He.codeOf K ("_law_thrown_refused", none), He.tabOf K (He.codeOf K ("_law_thrown_refused", none)), He.codeOf K ("law", none), He.tabOf K (He.codeOf K ("law", none))⟩
theorem tx {K : PySem.W.Frag} {h : Heap} {mg : Str → Option Value} {w : World} (X : K.In h) (G : h.Ns mainGlobals mg) (c : DY.SaysY fileS fas fns [] xds exs tfs w h K) : Tx R.prog K mg (adK K) := by
  have sn : (R.prog.main.scope.names.lookup ("super" : Str)).isSome = false := by decide +kernel
  exact {
    x_BadPrime := ⟨_, DY.XD.txt X G (c.x x_BadPrime (List.mem_of_getElem? (i := 0) rfl)) (c.ok x_BadPrime (List.mem_of_getElem? (i := 0) rfl)) xs_BadPrime c.sup c.any sn⟩
    x_BadNumber := ⟨_, DY.XD.txt X G (c.x x_BadNumber (List.mem_of_getElem? (i := 1) rfl)) (c.ok x_BadNumber (List.mem_of_getElem? (i := 1) rfl)) xs_BadNumber c.sup c.any sn⟩
    x_BadCoin := ⟨_, DY.XD.txt X G (c.x x_BadCoin (List.mem_of_getElem? (i := 2) rfl)) (c.ok x_BadCoin (List.mem_of_getElem? (i := 2) rfl)) xs_BadCoin c.sup c.any sn⟩
    x_BadLayer := ⟨_, DY.XD.txt X G (c.x x_BadLayer (List.mem_of_getElem? (i := 3) rfl)) (c.ok x_BadLayer (List.mem_of_getElem? (i := 3) rfl)) xs_BadLayer c.sup c.any sn⟩
    x_BadInputs := ⟨_, DY.XD.txt X G (c.x x_BadInputs (List.mem_of_getElem? (i := 4) rfl)) (c.ok x_BadInputs (List.mem_of_getElem? (i := 4) rfl)) xs_BadInputs c.sup c.any sn⟩
    x_BadGate := ⟨_, DY.XD.txt X G (c.x x_BadGate (List.mem_of_getElem? (i := 5) rfl)) (c.ok x_BadGate (List.mem_of_getElem? (i := 5) rfl)) xs_BadGate c.sup c.any sn⟩
    x_NoLayer := ⟨_, DY.XD.txt X G (c.x x_NoLayer (List.mem_of_getElem? (i := 6) rfl)) (c.ok x_NoLayer (List.mem_of_getElem? (i := 6) rfl)) xs_NoLayer c.sup c.any sn⟩
    x_BadPlace := ⟨_, DY.XD.txt X G (c.x x_BadPlace (List.mem_of_getElem? (i := 7) rfl)) (c.ok x_BadPlace (List.mem_of_getElem? (i := 7) rfl)) xs_BadPlace c.sup c.any sn⟩
    x_UnlikePrimes := ⟨_, DY.XD.txt X G (c.x x_UnlikePrimes (List.mem_of_getElem? (i := 8) rfl)) (c.ok x_UnlikePrimes (List.mem_of_getElem? (i := 8) rfl)) xs_UnlikePrimes c.sup c.any sn⟩
    x_BadNumbers := ⟨_, DY.XD.txt X G (c.x x_BadNumbers (List.mem_of_getElem? (i := 9) rfl)) (c.ok x_BadNumbers (List.mem_of_getElem? (i := 9) rfl)) xs_BadNumbers c.sup c.any sn⟩
    x_BadThrown := ⟨_, DY.XD.txt X G (c.x x_BadThrown (List.mem_of_getElem? (i := 10) rfl)) (c.ok x_BadThrown (List.mem_of_getElem? (i := 10) rfl)) xs_BadThrown c.sup c.any sn⟩
    e_BadPrime_BadPlace := He.exm_ok (He.SaysD.facts c.t.d (List.mem_of_getElem? (i := 112) rfl))
    e_BadPrime_BadCoin := He.exm_ok (He.SaysD.facts c.t.d (List.mem_of_getElem? (i := 113) rfl))
    e_BadPrime_BadThrown := He.exm_ok (He.SaysD.facts c.t.d (List.mem_of_getElem? (i := 114) rfl))
    e_BadPrime_BadNumber := He.exm_ok (He.SaysD.facts c.t.d (List.mem_of_getElem? (i := 115) rfl))
    e_BadNumber_BadPlace := He.exm_ok (He.SaysD.facts c.t.d (List.mem_of_getElem? (i := 116) rfl))
    e_BadNumber_BadCoin := He.exm_ok (He.SaysD.facts c.t.d (List.mem_of_getElem? (i := 117) rfl))
    e_BadNumber_BadThrown := He.exm_ok (He.SaysD.facts c.t.d (List.mem_of_getElem? (i := 118) rfl))
    e_BadNumber_BadNumber := He.exm_ok (He.SaysD.facts c.t.d (List.mem_of_getElem? (i := 119) rfl))
    e_BadCoin_BadPlace := He.exm_ok (He.SaysD.facts c.t.d (List.mem_of_getElem? (i := 120) rfl))
    e_BadCoin_BadCoin := He.exm_ok (He.SaysD.facts c.t.d (List.mem_of_getElem? (i := 121) rfl))
    e_BadCoin_BadThrown := He.exm_ok (He.SaysD.facts c.t.d (List.mem_of_getElem? (i := 122) rfl))
    e_BadCoin_BadNumber := He.exm_ok (He.SaysD.facts c.t.d (List.mem_of_getElem? (i := 123) rfl))
    e_BadLayer_BadPlace := He.exm_ok (He.SaysD.facts c.t.d (List.mem_of_getElem? (i := 124) rfl))
    e_BadLayer_BadCoin := He.exm_ok (He.SaysD.facts c.t.d (List.mem_of_getElem? (i := 125) rfl))
    e_BadLayer_BadThrown := He.exm_ok (He.SaysD.facts c.t.d (List.mem_of_getElem? (i := 126) rfl))
    e_BadLayer_BadNumber := He.exm_ok (He.SaysD.facts c.t.d (List.mem_of_getElem? (i := 127) rfl))
    e_BadInputs_BadPlace := He.exm_ok (He.SaysD.facts c.t.d (List.mem_of_getElem? (i := 128) rfl))
    e_BadInputs_BadCoin := He.exm_ok (He.SaysD.facts c.t.d (List.mem_of_getElem? (i := 129) rfl))
    e_BadInputs_BadThrown := He.exm_ok (He.SaysD.facts c.t.d (List.mem_of_getElem? (i := 130) rfl))
    e_BadInputs_BadNumber := He.exm_ok (He.SaysD.facts c.t.d (List.mem_of_getElem? (i := 131) rfl))
    e_BadGate_BadPlace := He.exm_ok (He.SaysD.facts c.t.d (List.mem_of_getElem? (i := 132) rfl))
    e_BadGate_BadCoin := He.exm_ok (He.SaysD.facts c.t.d (List.mem_of_getElem? (i := 133) rfl))
    e_BadGate_BadThrown := He.exm_ok (He.SaysD.facts c.t.d (List.mem_of_getElem? (i := 134) rfl))
    e_BadGate_BadNumber := He.exm_ok (He.SaysD.facts c.t.d (List.mem_of_getElem? (i := 135) rfl))
    e_NoLayer_BadPlace := He.exm_ok (He.SaysD.facts c.t.d (List.mem_of_getElem? (i := 136) rfl))
    e_NoLayer_BadCoin := He.exm_ok (He.SaysD.facts c.t.d (List.mem_of_getElem? (i := 137) rfl))
    e_NoLayer_BadThrown := He.exm_ok (He.SaysD.facts c.t.d (List.mem_of_getElem? (i := 138) rfl))
    e_NoLayer_BadNumber := He.exm_ok (He.SaysD.facts c.t.d (List.mem_of_getElem? (i := 139) rfl))
    e_BadPlace_BadPlace := He.exm_ok (He.SaysD.facts c.t.d (List.mem_of_getElem? (i := 140) rfl))
    e_BadPlace_BadCoin := He.exm_ok (He.SaysD.facts c.t.d (List.mem_of_getElem? (i := 141) rfl))
    e_BadPlace_BadThrown := He.exm_ok (He.SaysD.facts c.t.d (List.mem_of_getElem? (i := 142) rfl))
    e_BadPlace_BadNumber := He.exm_ok (He.SaysD.facts c.t.d (List.mem_of_getElem? (i := 143) rfl))
    e_UnlikePrimes_BadPlace := He.exm_ok (He.SaysD.facts c.t.d (List.mem_of_getElem? (i := 144) rfl))
    e_UnlikePrimes_BadCoin := He.exm_ok (He.SaysD.facts c.t.d (List.mem_of_getElem? (i := 145) rfl))
    e_UnlikePrimes_BadThrown := He.exm_ok (He.SaysD.facts c.t.d (List.mem_of_getElem? (i := 146) rfl))
    e_UnlikePrimes_BadNumber := He.exm_ok (He.SaysD.facts c.t.d (List.mem_of_getElem? (i := 147) rfl))
    e_BadNumbers_BadPlace := He.exm_ok (He.SaysD.facts c.t.d (List.mem_of_getElem? (i := 148) rfl))
    e_BadNumbers_BadCoin := He.exm_ok (He.SaysD.facts c.t.d (List.mem_of_getElem? (i := 149) rfl))
    e_BadNumbers_BadThrown := He.exm_ok (He.SaysD.facts c.t.d (List.mem_of_getElem? (i := 150) rfl))
    e_BadNumbers_BadNumber := He.exm_ok (He.SaysD.facts c.t.d (List.mem_of_getElem? (i := 151) rfl))
    e_BadThrown_BadPlace := He.exm_ok (He.SaysD.facts c.t.d (List.mem_of_getElem? (i := 152) rfl))
    e_BadThrown_BadCoin := He.exm_ok (He.SaysD.facts c.t.d (List.mem_of_getElem? (i := 153) rfl))
    e_BadThrown_BadThrown := He.exm_ok (He.SaysD.facts c.t.d (List.mem_of_getElem? (i := 154) rfl))
    e_BadThrown_BadNumber := He.exm_ok (He.SaysD.facts c.t.d (List.mem_of_getElem? (i := 155) rfl))
    f__wall := DY.fun_at X G c "_wall" s__wall ["k"] (List.mem_of_getElem? (i := 0) rfl) (List.mem_of_getElem? (i := 15) rfl) (fun _ _ _ _ _ _ us hl => match us, hl with | [_], _ => rfl)
    f_is_integer := DY.fun_at X G c "is_integer" s_is_integer ["thing"] (List.mem_of_getElem? (i := 1) rfl) (List.mem_of_getElem? (i := 16) rfl) (fun _ _ _ _ _ _ us hl => match us, hl with | [_], _ => rfl)
    f_is_list := DY.fun_at X G c "is_list" s_is_list ["thing"] (List.mem_of_getElem? (i := 2) rfl) (List.mem_of_getElem? (i := 17) rfl) (fun _ _ _ _ _ _ us hl => match us, hl with | [_], _ => rfl)
    f_first_odd := DY.fun_at X G c "first_odd" s_first_odd ["things"] (List.mem_of_getElem? (i := 3) rfl) (List.mem_of_getElem? (i := 18) rfl) (fun _ _ _ _ _ _ us hl => match us, hl with | [_], _ => rfl)
    f_check_prime := DY.fun_at X G c "check_prime" s_check_prime ["prime"] (List.mem_of_getElem? (i := 4) rfl) (List.mem_of_getElem? (i := 19) rfl) (fun _ _ _ _ _ _ us hl => match us, hl with | [_], _ => rfl)
    f_check_number := DY.fun_at X G c "check_number" s_check_number ["number"] (List.mem_of_getElem? (i := 5) rfl) (List.mem_of_getElem? (i := 20) rfl) (fun _ _ _ _ _ _ us hl => match us, hl with | [_], _ => rfl)
    f_is_coin := DY.fun_at X G c "is_coin" s_is_coin ["thing"] (List.mem_of_getElem? (i := 6) rfl) (List.mem_of_getElem? (i := 21) rfl) (fun _ _ _ _ _ _ us hl => match us, hl with | [_], _ => rfl)
    f_first_bad_coin := DY.fun_at X G c "first_bad_coin" s_first_bad_coin ["prime", "thing"] (List.mem_of_getElem? (i := 7) rfl) (List.mem_of_getElem? (i := 22) rfl) (fun _ _ _ _ _ _ us hl => match us, hl with | [_, _], _ => rfl)
    f_check_coins := DY.fun_at X G c "check_coins" s_check_coins ["prime", "thing"] (List.mem_of_getElem? (i := 8) rfl) (List.mem_of_getElem? (i := 23) rfl) (fun _ _ _ _ _ _ us hl => match us, hl with | [_, _], _ => rfl)
    f_is_gate := DY.fun_at X G c "is_gate" s_is_gate ["thing", "cells"] (List.mem_of_getElem? (i := 9) rfl) (List.mem_of_getElem? (i := 24) rfl) (fun _ _ _ _ _ _ us hl => match us, hl with | [_, _], _ => rfl)
    f_gate_row := DY.fun_at X G c "gate_row" s_gate_row ["gates", "cells", "prime"] (List.mem_of_getElem? (i := 10) rfl) (List.mem_of_getElem? (i := 25) rfl) (fun _ _ _ _ _ _ us hl => match us, hl with | [_, _, _], _ => rfl)
    f_folded := DY.fun_at X G c "folded" s_folded ["numbers", "place", "prime"] (List.mem_of_getElem? (i := 11) rfl) (List.mem_of_getElem? (i := 26) rfl) (fun _ _ _ _ _ _ us hl => match us, hl with | [_, _, _], _ => rfl)
    f_check_like := DY.fun_at X G c "check_like" s_check_like ["one", "other"] (List.mem_of_getElem? (i := 12) rfl) (List.mem_of_getElem? (i := 27) rfl) (fun _ _ _ _ _ _ us hl => match us, hl with | [_, _], _ => rfl)
    f_worth_at := DY.fun_at X G c "worth_at" s_worth_at ["row", "number", "prime"] (List.mem_of_getElem? (i := 13) rfl) (List.mem_of_getElem? (i := 28) rfl) (fun _ _ _ _ _ _ us hl => match us, hl with | [_, _, _], _ => rfl)
    f_folded_at := DY.fun_at X G c "folded_at" s_folded_at ["one", "other", "place"] (List.mem_of_getElem? (i := 14) rfl) (List.mem_of_getElem? (i := 29) rfl) (fun _ _ _ _ _ _ us hl => match us, hl with | [_, _, _], _ => rfl)
    f_check_thrown := DY.fun_at X G c "check_thrown" s_check_thrown ["thrown", "most"] (List.mem_of_getElem? (i := 15) rfl) (List.mem_of_getElem? (i := 30) rfl) (fun _ _ _ _ _ _ us hl => match us, hl with | [_, _], _ => rfl)
    f_at_corner := DY.fun_at X G c "at_corner" s_at_corner ["index", "place", "prime"] (List.mem_of_getElem? (i := 16) rfl) (List.mem_of_getElem? (i := 31) rfl) (fun _ _ _ _ _ _ us hl => match us, hl with | [_, _, _], _ => rfl)
    f_poly_at_corner := DY.fun_at X G c "poly_at_corner" s_poly_at_corner ["index", "place", "prime"] (List.mem_of_getElem? (i := 17) rfl) (List.mem_of_getElem? (i := 32) rfl) (fun _ _ _ _ _ _ us hl => match us, hl with | [_, _, _], _ => rfl)
    f_poly_folded := DY.fun_at X G c "poly_folded" s_poly_folded ["numbers", "place", "prime"] (List.mem_of_getElem? (i := 18) rfl) (List.mem_of_getElem? (i := 33) rfl) (fun _ _ _ _ _ _ us hl => match us, hl with | [_, _, _], _ => rfl)
    f_all_corners := DY.fun_at X G c "all_corners" s_all_corners ["many"] (List.mem_of_getElem? (i := 19) rfl) (List.mem_of_getElem? (i := 34) rfl) (fun _ _ _ _ _ _ us hl => match us, hl with | [_], _ => rfl)
    f__law_g_lot := DY.fun_at X G c "_law_g_lot" s__law_g_lot ["_law_stream", "_law_prime", "_law_most"] (List.mem_of_getElem? (i := 20) rfl) (List.mem_of_getElem? (i := 35) rfl) (fun _ _ _ _ _ _ us hl => match us, hl with | [_, _, _], _ => rfl)
    f__law_l_gates := DY.fun_at X G c "_law_l_gates" s__law_l_gates ["_law_stream", "_law_many", "_law_cells"] (List.mem_of_getElem? (i := 21) rfl) (List.mem_of_getElem? (i := 36) rfl) (fun _ _ _ _ _ _ us hl => match us, hl with | [_, _, _], _ => rfl)
    f__law_l_plan := DY.fun_at X G c "_law_l_plan" s__law_l_plan ["_law_stream", "_law_prime", "_law_deep", "_law_sizes"] (List.mem_of_getElem? (i := 22) rfl) (List.mem_of_getElem? (i := 37) rfl) (fun _ _ _ _ _ _ us hl => match us, hl with | [_, _, _, _], _ => rfl)
    f__law_start := DY.fun_at X G c "_law_start" s__law_start ["_law_script"] (List.mem_of_getElem? (i := 23) rfl) (List.mem_of_getElem? (i := 38) rfl) (fun _ _ _ _ _ _ us hl => match us, hl with | [_], _ => rfl)
    f__law_draw := DY.fun_at X G c "_law_draw" s__law_draw ["_law_stream", "_law_many"] (List.mem_of_getElem? (i := 24) rfl) (List.mem_of_getElem? (i := 39) rfl) (fun _ _ _ _ _ _ us hl => match us, hl with | [_, _], _ => rfl)
    f__law_pick := DY.fun_at X G c "_law_pick" s__law_pick ["_law_stream", "_law_some"] (List.mem_of_getElem? (i := 25) rfl) (List.mem_of_getElem? (i := 40) rfl) (fun _ _ _ _ _ _ us hl => match us, hl with | [_, _], _ => rfl)
    f__law_mixed := DY.fun_at X G c "_law_mixed" s__law_mixed ["_law_stream", "_law_some"] (List.mem_of_getElem? (i := 26) rfl) (List.mem_of_getElem? (i := 41) rfl) (fun _ _ _ _ _ _ us hl => match us, hl with | [_, _], _ => rfl)
    f__law_same := DY.fun_at X G c "_law_same" s__law_same ["_law_found", "_law_due"] (List.mem_of_getElem? (i := 27) rfl) (List.mem_of_getElem? (i := 42) rfl) (fun _ _ _ _ _ _ us hl => match us, hl with | [_, _], _ => rfl)
    f__law_frozen := DY.fun_at X G c "_law_frozen" s__law_frozen ["_law_thing"] (List.mem_of_getElem? (i := 28) rfl) (List.mem_of_getElem? (i := 43) rfl) (fun _ _ _ _ _ _ us hl => match us, hl with | [_], _ => rfl)
    f__law_tried := DY.fun_at X G c "_law_tried" s__law_tried ["_law_ask"] (List.mem_of_getElem? (i := 29) rfl) (List.mem_of_getElem? (i := 44) rfl) (fun _ _ _ _ _ _ us hl => match us, hl with | [_], _ => rfl)
    f__law_coins_refused := DY.fun_at X G c "_law_coins_refused" s__law_coins_refused ["_law_stream", "_law_net", "_law_place"] (List.mem_of_getElem? (i := 30) rfl) (List.mem_of_getElem? (i := 45) rfl) (fun _ _ _ _ _ _ us hl => match us, hl with | [_, _, _], _ => rfl)
    f__law_thrown_refused := DY.fun_at X G c "_law_thrown_refused" s__law_thrown_refused ["_law_talk", "_law_many", "_law_thrown"] (List.mem_of_getElem? (i := 31) rfl) (List.mem_of_getElem? (i := 46) rfl) (fun _ _ _ _ _ _ us hl => match us, hl with | [_, _, _], _ => rfl)
    f_law := DY.fun_at X G c "law" s_law ["_law_script"] (List.mem_of_getElem? (i := 32) rfl) (List.mem_of_getElem? (i := 47) rfl) (fun _ _ _ _ _ _ us hl => match us, hl with | [_], _ => rfl)
    m_Gates := DY.glo_at X G c (List.mem_of_getElem? (i := 12) rfl)
    k_Gates := DY.ckB_ok (He.ba (He.ba (He.ba (He.ba (He.ba (He.ba c.more).1).1).1).1).1).1
    ne_Gates := DY.neB_ok (He.ba (He.ba (He.ba (He.ba (He.ba (He.ba c.more).1).1).1).1).1).2
    n_Gates_prime := DY.noat_at c (List.mem_of_getElem? (i := 66) rfl) (List.mem_of_getElem? (i := 67) rfl)
    n_Gates_rows := DY.noat_at c (List.mem_of_getElem? (i := 66) rfl) (List.mem_of_getElem? (i := 68) rfl)
    n_Gates_worths := DY.noat_at c (List.mem_of_getElem? (i := 66) rfl) (List.mem_of_getElem? (i := 69) rfl)
    i_Gates := DY.init_at c "Gates" "Gates.__init__" s_Gates___init__ ["self", "prime", "layers", "inputs"] (List.mem_of_getElem? (i := 33) rfl) (List.mem_of_getElem? (i := 70) rfl) (fun _ _ _ _ _ _ us hl => match us, hl with | [_, _, _, _], _ => rfl)
    t_Gates_layers := DY.meth_at c "Gates" "layers" "Gates.layers" s_Gates_layers ["self"] (List.mem_of_getElem? (i := 34) rfl) (List.mem_of_getElem? (i := 71) rfl) (List.mem_of_getElem? (i := 66) rfl) (fun _ _ _ _ _ _ us hl => match us, hl with | [_], _ => rfl)
    t_Gates___len__ := DY.meth_at c "Gates" "__len__" "Gates.__len__" s_Gates___len__ ["self"] (List.mem_of_getElem? (i := 35) rfl) (List.mem_of_getElem? (i := 72) rfl) (List.mem_of_getElem? (i := 66) rfl) (fun _ _ _ _ _ _ us hl => match us, hl with | [_], _ => rfl)
    t_Gates___eq__ := DY.meth_at c "Gates" "__eq__" "Gates.__eq__" s_Gates___eq__ ["self", "other"] (List.mem_of_getElem? (i := 36) rfl) (List.mem_of_getElem? (i := 73) rfl) (List.mem_of_getElem? (i := 66) rfl) (fun _ _ _ _ _ _ us hl => match us, hl with | [_, _], _ => rfl)
    t_Gates_check_layer := DY.meth_at c "Gates" "check_layer" "Gates.check_layer" s_Gates_check_layer ["self", "layer"] (List.mem_of_getElem? (i := 37) rfl) (List.mem_of_getElem? (i := 74) rfl) (List.mem_of_getElem? (i := 66) rfl) (fun _ _ _ _ _ _ us hl => match us, hl with | [_, _], _ => rfl)
    t_Gates_cells := DY.meth_at c "Gates" "cells" "Gates.cells" s_Gates_cells ["self", "layer"] (List.mem_of_getElem? (i := 38) rfl) (List.mem_of_getElem? (i := 75) rfl) (List.mem_of_getElem? (i := 66) rfl) (fun _ _ _ _ _ _ us hl => match us, hl with | [_, _], _ => rfl)
    t_Gates_told := DY.meth_at c "Gates" "told" "Gates.told" s_Gates_told ["self"] (List.mem_of_getElem? (i := 39) rfl) (List.mem_of_getElem? (i := 76) rfl) (List.mem_of_getElem? (i := 66) rfl) (fun _ _ _ _ _ _ us hl => match us, hl with | [_], _ => rfl)
    t_Gates_bits := DY.meth_at c "Gates" "bits" "Gates.bits" s_Gates_bits ["self", "layer"] (List.mem_of_getElem? (i := 40) rfl) (List.mem_of_getElem? (i := 77) rfl) (List.mem_of_getElem? (i := 66) rfl) (fun _ _ _ _ _ _ us hl => match us, hl with | [_, _], _ => rfl)
    t_Gates_extended := DY.meth_at c "Gates" "extended" "Gates.extended" s_Gates_extended ["self", "layer", "place"] (List.mem_of_getElem? (i := 41) rfl) (List.mem_of_getElem? (i := 78) rfl) (List.mem_of_getElem? (i := 66) rfl) (fun _ _ _ _ _ _ us hl => match us, hl with | [_, _, _], _ => rfl)
    m_Poly := DY.glo_at X G c (List.mem_of_getElem? (i := 13) rfl)
    k_Poly := DY.ckB_ok (He.ba (He.ba (He.ba (He.ba (He.ba c.more).1).1).1).1).2
    ne_Poly := DY.neB_ok (He.ba (He.ba (He.ba (He.ba c.more).1).1).1).2
    n_Poly_prime := DY.noat_at c (List.mem_of_getElem? (i := 79) rfl) (List.mem_of_getElem? (i := 80) rfl)
    n_Poly_row := DY.noat_at c (List.mem_of_getElem? (i := 79) rfl) (List.mem_of_getElem? (i := 81) rfl)
    i_Poly := DY.init_at c "Poly" "Poly.__init__" s_Poly___init__ ["self", "prime", "numbers"] (List.mem_of_getElem? (i := 42) rfl) (List.mem_of_getElem? (i := 82) rfl) (fun _ _ _ _ _ _ us hl => match us, hl with | [_, _, _], _ => rfl)
    t_Poly_numbers := DY.meth_at c "Poly" "numbers" "Poly.numbers" s_Poly_numbers ["self"] (List.mem_of_getElem? (i := 43) rfl) (List.mem_of_getElem? (i := 83) rfl) (List.mem_of_getElem? (i := 79) rfl) (fun _ _ _ _ _ _ us hl => match us, hl with | [_], _ => rfl)
    t_Poly_degree := DY.meth_at c "Poly" "degree" "Poly.degree" s_Poly_degree ["self"] (List.mem_of_getElem? (i := 44) rfl) (List.mem_of_getElem? (i := 84) rfl) (List.mem_of_getElem? (i := 79) rfl) (fun _ _ _ _ _ _ us hl => match us, hl with | [_], _ => rfl)
    t_Poly_at := DY.meth_at c "Poly" "at" "Poly.at" s_Poly_at ["self", "number"] (List.mem_of_getElem? (i := 45) rfl) (List.mem_of_getElem? (i := 85) rfl) (List.mem_of_getElem? (i := 79) rfl) (fun _ _ _ _ _ _ us hl => match us, hl with | [_, _], _ => rfl)
    t_Poly___eq__ := DY.meth_at c "Poly" "__eq__" "Poly.__eq__" s_Poly___eq__ ["self", "other"] (List.mem_of_getElem? (i := 46) rfl) (List.mem_of_getElem? (i := 86) rfl) (List.mem_of_getElem? (i := 79) rfl) (fun _ _ _ _ _ _ us hl => match us, hl with | [_, _], _ => rfl)
    t_Poly___add__ := DY.meth_at c "Poly" "__add__" "Poly.__add__" s_Poly___add__ ["self", "other"] (List.mem_of_getElem? (i := 47) rfl) (List.mem_of_getElem? (i := 87) rfl) (List.mem_of_getElem? (i := 79) rfl) (fun _ _ _ _ _ _ us hl => match us, hl with | [_, _], _ => rfl)
    t_Poly___sub__ := DY.meth_at c "Poly" "__sub__" "Poly.__sub__" s_Poly___sub__ ["self", "other"] (List.mem_of_getElem? (i := 48) rfl) (List.mem_of_getElem? (i := 88) rfl) (List.mem_of_getElem? (i := 79) rfl) (fun _ _ _ _ _ _ us hl => match us, hl with | [_, _], _ => rfl)
    t_Poly___mul__ := DY.meth_at c "Poly" "__mul__" "Poly.__mul__" s_Poly___mul__ ["self", "other"] (List.mem_of_getElem? (i := 49) rfl) (List.mem_of_getElem? (i := 89) rfl) (List.mem_of_getElem? (i := 79) rfl) (fun _ _ _ _ _ _ us hl => match us, hl with | [_, _], _ => rfl)
    t_Poly_parted := DY.meth_at c "Poly" "parted" "Poly.parted" s_Poly_parted ["self", "other"] (List.mem_of_getElem? (i := 50) rfl) (List.mem_of_getElem? (i := 90) rfl) (List.mem_of_getElem? (i := 79) rfl) (fun _ _ _ _ _ _ us hl => match us, hl with | [_, _], _ => rfl)
    t_Poly_roots := DY.meth_at c "Poly" "roots" "Poly.roots" s_Poly_roots ["self"] (List.mem_of_getElem? (i := 51) rfl) (List.mem_of_getElem? (i := 91) rfl) (List.mem_of_getElem? (i := 79) rfl) (fun _ _ _ _ _ _ us hl => match us, hl with | [_], _ => rfl)
    m_Layers := DY.glo_at X G c (List.mem_of_getElem? (i := 14) rfl)
    k_Layers := DY.ckB_ok (He.ba (He.ba (He.ba c.more).1).1).2
    n_Layers_net := DY.noat_at c (List.mem_of_getElem? (i := 92) rfl) (List.mem_of_getElem? (i := 93) rfl)
    n_Layers_prime := DY.noat_at c (List.mem_of_getElem? (i := 92) rfl) (List.mem_of_getElem? (i := 94) rfl)
    n_Layers_begin := DY.noat_at c (List.mem_of_getElem? (i := 92) rfl) (List.mem_of_getElem? (i := 95) rfl)
    n_Layers_lot := DY.noat_at c (List.mem_of_getElem? (i := 92) rfl) (List.mem_of_getElem? (i := 96) rfl)
    n_Layers_sizes := DY.noat_at c (List.mem_of_getElem? (i := 92) rfl) (List.mem_of_getElem? (i := 97) rfl)
    i_Layers := DY.init_at c "Layers" "Layers.__init__" s_Layers___init__ ["self", "net", "place", "coins"] (List.mem_of_getElem? (i := 52) rfl) (List.mem_of_getElem? (i := 98) rfl) (fun _ _ _ _ _ _ us hl => match us, hl with | [_, _, _, _], _ => rfl)
    t_Layers_place := DY.meth_at c "Layers" "place" "Layers.place" s_Layers_place ["self"] (List.mem_of_getElem? (i := 53) rfl) (List.mem_of_getElem? (i := 99) rfl) (List.mem_of_getElem? (i := 92) rfl) (fun _ _ _ _ _ _ us hl => match us, hl with | [_], _ => rfl)
    t_Layers_beats := DY.meth_at c "Layers" "beats" "Layers.beats" s_Layers_beats ["self"] (List.mem_of_getElem? (i := 54) rfl) (List.mem_of_getElem? (i := 100) rfl) (List.mem_of_getElem? (i := 92) rfl) (fun _ _ _ _ _ _ us hl => match us, hl with | [_], _ => rfl)
    t_Layers_spot := DY.meth_at c "Layers" "spot" "Layers.spot" s_Layers_spot ["self", "thrown"] (List.mem_of_getElem? (i := 55) rfl) (List.mem_of_getElem? (i := 101) rfl) (List.mem_of_getElem? (i := 92) rfl) (fun _ _ _ _ _ _ us hl => match us, hl with | [_, _], _ => rfl)
    t_Layers_next_spot := DY.meth_at c "Layers" "next_spot" "Layers.next_spot" s_Layers_next_spot ["self", "thrown"] (List.mem_of_getElem? (i := 56) rfl) (List.mem_of_getElem? (i := 102) rfl) (List.mem_of_getElem? (i := 92) rfl) (fun _ _ _ _ _ _ us hl => match us, hl with | [_, _], _ => rfl)
    t_Layers_weights := DY.meth_at c "Layers" "weights" "Layers.weights" s_Layers_weights ["self", "layer", "place", "both"] (List.mem_of_getElem? (i := 57) rfl) (List.mem_of_getElem? (i := 103) rfl) (List.mem_of_getElem? (i := 92) rfl) (fun _ _ _ _ _ _ us hl => match us, hl with | [_, _, _, _], _ => rfl)
    t_Layers_joint := DY.meth_at c "Layers" "joint" "Layers.joint" s_Layers_joint ["self", "layer", "place", "both"] (List.mem_of_getElem? (i := 58) rfl) (List.mem_of_getElem? (i := 104) rfl) (List.mem_of_getElem? (i := 92) rfl) (fun _ _ _ _ _ _ us hl => match us, hl with | [_, _, _, _], _ => rfl)
    t_Layers_poly_joint := DY.meth_at c "Layers" "poly_joint" "Layers.poly_joint" s_Layers_poly_joint ["self", "layer", "place", "both"] (List.mem_of_getElem? (i := 59) rfl) (List.mem_of_getElem? (i := 105) rfl) (List.mem_of_getElem? (i := 92) rfl) (fun _ _ _ _ _ _ us hl => match us, hl with | [_, _, _, _], _ => rfl)
    t_Layers_degree := DY.meth_at c "Layers" "degree" "Layers.degree" s_Layers_degree ["self", "thrown"] (List.mem_of_getElem? (i := 60) rfl) (List.mem_of_getElem? (i := 106) rfl) (List.mem_of_getElem? (i := 92) rfl) (fun _ _ _ _ _ _ us hl => match us, hl with | [_, _], _ => rfl)
    t_Layers_coins := DY.meth_at c "Layers" "coins" "Layers.coins" s_Layers_coins ["self", "thrown"] (List.mem_of_getElem? (i := 61) rfl) (List.mem_of_getElem? (i := 107) rfl) (List.mem_of_getElem? (i := 92) rfl) (fun _ _ _ _ _ _ us hl => match us, hl with | [_, _], _ => rfl)
    t_Layers_claims := DY.meth_at c "Layers" "claims" "Layers.claims" s_Layers_claims ["self", "thrown", "message"] (List.mem_of_getElem? (i := 62) rfl) (List.mem_of_getElem? (i := 108) rfl) (List.mem_of_getElem? (i := 92) rfl) (fun _ _ _ _ _ _ us hl => match us, hl with | [_, _, _], _ => rfl)
    t_Layers_truth := DY.meth_at c "Layers" "truth" "Layers.truth" s_Layers_truth ["self", "thrown"] (List.mem_of_getElem? (i := 63) rfl) (List.mem_of_getElem? (i := 109) rfl) (List.mem_of_getElem? (i := 92) rfl) (fun _ _ _ _ _ _ us hl => match us, hl with | [_, _], _ => rfl)
    t_Layers_right := DY.meth_at c "Layers" "right" "Layers.right" s_Layers_right ["self", "thrown"] (List.mem_of_getElem? (i := 64) rfl) (List.mem_of_getElem? (i := 110) rfl) (List.mem_of_getElem? (i := 92) rfl) (fun _ _ _ _ _ _ us hl => match us, hl with | [_, _], _ => rfl)
    t_Layers_ends := DY.meth_at c "Layers" "ends" "Layers.ends" s_Layers_ends ["self", "thrown", "claim"] (List.mem_of_getElem? (i := 65) rfl) (List.mem_of_getElem? (i := 111) rfl) (List.mem_of_getElem? (i := 92) rfl) (fun _ _ _ _ _ _ us hl => match us, hl with | [_, _, _], _ => rfl)
    z_all := DY.free_at X G c (List.mem_of_getElem? (i := 49) rfl)
    z_any := DY.free_at X G c (List.mem_of_getElem? (i := 50) rfl)
    z_bool := DY.free_at X G c (List.mem_of_getElem? (i := 51) rfl)
    z_dict := DY.free_at X G c (List.mem_of_getElem? (i := 52) rfl)
    z_enumerate := DY.free_at X G c (List.mem_of_getElem? (i := 53) rfl)
    z_int := DY.free_at X G c (List.mem_of_getElem? (i := 54) rfl)
    z_isinstance := DY.free_at X G c (List.mem_of_getElem? (i := 55) rfl)
    z_len := DY.free_at X G c (List.mem_of_getElem? (i := 56) rfl)
    z_list := DY.free_at X G c (List.mem_of_getElem? (i := 57) rfl)
    z_max := DY.free_at X G c (List.mem_of_getElem? (i := 58) rfl)
    z_min := DY.free_at X G c (List.mem_of_getElem? (i := 59) rfl)
    z_range := DY.free_at X G c (List.mem_of_getElem? (i := 60) rfl)
    z_str := DY.free_at X G c (List.mem_of_getElem? (i := 61) rfl)
    z_sum := DY.free_at X G c (List.mem_of_getElem? (i := 62) rfl)
    z_tuple := DY.free_at X G c (List.mem_of_getElem? (i := 63) rfl)
    z_zip := DY.free_at X G c (List.mem_of_getElem? (i := 64) rfl)
    v_MOST_PRIME := DY.int_at X G c (List.mem_of_getElem? (i := 65) rfl)
    v_BITS := ⟨DY.glo_at X G c (List.mem_of_getElem? (i := 48) rfl), DL.itB_ok (He.ba (He.ba c.more).1).2⟩
    t_ne := of_decide_eq_true (He.ba c.more).2
    c_law := fun a oc od fd osl cc hm lk e => DY.code_at X G c (List.mem_of_getElem? (i := 45) rfl) hm lk e
    c_law2 := fun a oc od fd osl cc hm lk e => DY.code_at X G c (List.mem_of_getElem? (i := 46) rfl) hm lk e
    c_law3 := fun a oc od fd osl cc hm lk e => DY.code_at X G c (List.mem_of_getElem? (i := 47) rfl) hm lk e }
/-- what the law's end asks -/
theorem lawAt {w : World} {K : PySem.W.Frag} {mg : Str → Option Value} {fa : Addr} {h : Heap} (X : K.In h) (G : h.Ns mainGlobals mg) (c : DY.SaysY fileS fas fns [] xds exs tfs w h K) (hmg : mg "law" = some (.ref fa)) :
    LamX.LawAtS PySem.Challenge.rw_weaktalks_k54_layer_talks_refused w K (L2.CX R.prog w) 12 63 "_law_script" mg fa h := by
  have T := tx X G c
  obtain ⟨a, fd, F, m, bi⟩ := T.f_law
  have e := hmg.symm.trans m
  cases e
  have m1 : tfs[0] ∈ tfs := List.getElem_mem _
  have m2 : tfs[1] ∈ tfs := List.getElem_mem _
  have m3 : tfs[2] ∈ tfs := List.getElem_mem _
  refine ⟨fd, [((adK K).cL, (adK K).tL), ((adK K).cL2, (adK K).tL2), ((adK K).cL3, (adK K).tL3)], spLaw K (adK K), ?_, ?_, ?_, ?_, ?_, ?_⟩
  · intro p hp
    simp only [List.mem_cons, List.not_mem_nil, or_false] at hp
    rcases hp with rfl | rfl | rfl
    · exact c.empty _ m1
    · exact c.empty _ m2
    · exact c.empty _ m3
  · intro p hp
    simp only [List.mem_cons, List.not_mem_nil, or_false] at hp
    rcases hp with rfl | rfl | rfl
    · exact c.out _ m1
    · exact c.out _ m2
    · exact c.out _ m3
  · intro p hp
    simp only [List.mem_cons, List.not_mem_nil, or_false] at hp
    rcases hp with rfl | rfl | rfl
    · exact PySem.W.codeHd_of_K X (c.hd _ m1)
    · exact PySem.W.codeHd_of_K X (c.hd _ m2)
    · exact PySem.W.codeHd_of_K X (c.hd _ m3)
  · intro s u
    obtain ⟨oc, od, kV, doc, pm, an, cdv, ct, osl, rfl, lk, hcd⟩ := F.ex
    exact .of_eq rfl
  · intro H a ns _ _ hT hS
    exact ⟨a, ns, rfl, hS, hT _ List.mem_cons_self, hT _ (List.mem_cons_of_mem _ List.mem_cons_self), hT _ (List.mem_cons_of_mem _ (List.mem_cons_of_mem _ List.mem_cons_self)), fun _ => rfl⟩
  · intro base _ _ hB
    exact ok_law T (hB _ List.mem_cons_self) (hB _ (List.mem_cons_of_mem _ List.mem_cons_self)) (hB _ (List.mem_cons_of_mem _ (List.mem_cons_of_mem _ List.mem_cons_self))) F m

end K54
open PySem PySem.W PySem.Calls PyProof.Rows
set_option maxHeartbeats 0 in
theorem PySem.Challenge.cw_weaktalks_k54_layer_talks_refused_holds : PySem.Challenge.rw_weaktalks_k54_layer_talks_refused.Holds := by
  w_on; o_law
  refine HandSHeadRun.head_any (r := OpenLaw.row PySem.Challenge.rw_weaktalks_k54_layer_talks_refused) (q := view (OpenLaw.row PySem.Challenge.rw_weaktalks_k54_layer_talks_refused).prog [K54.iLaw]) (H := K54.hk) (ob := K54.ob) (M := 9000) (loose := K54.names) (d := HandSHeadRun.topDef (OpenLaw.row PySem.Challenge.rw_weaktalks_k54_layer_talks_refused).prog K54.iLaw) (kwd := []) K54.ob_eq
    (by kernel_rfl) (fun s => by kernel_rfl) K54.run (by kernel_rfl) (by kernel_rfl) (by kernel_rfl) (by rfl) (by first | assumption | decide +kernel) (by decide +kernel) ⟨rfl, rfl, rfl, rfl, rfl, by decide +kernel⟩ ?hw ?hc
  case hw => w_witness2
  case hc =>
    refine LamX.walk_ofTsE (l := PySem.Challenge.rw_weaktalks_k54_layer_talks_refused) (n := 63) (k := 12) (x := "_law_script") (CX := fun w => L2.CX K54.R.prog w) rfl (by decide) (by kernel_rfl) ⟨rfl, by decide, by decide⟩ ?F (fun _ _ _ _ _ z => by
      obtain ⟨_, _, _, _, _, _, _, _, _, _, _, _, z⟩ := z
      exact z)
    intro w mg fa h Y G hmg0
    obtain ⟨K, KX, c⟩ := Y
    have hmg : mg ("law" : PySem.Str) = some (.ref fa) := by
      have e : (HandSHeadRun.topDef (OpenLaw.row PySem.Challenge.rw_weaktalks_k54_layer_talks_refused).prog K54.iLaw).name = ("law" : PySem.Str) := by kernel_rfl
      rw [← e]
      exact hmg0
    exact ⟨K, KX, K54.lawAt KX G c hmg⟩


