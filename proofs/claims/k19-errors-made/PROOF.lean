import PyProof.Rows.All
import Wide.All
import OpenK.AllK
import Wide.FinOn
import HandS.ForMost
import HandS.Walk
import HandS.ForExc
import HandS.ExcInit
import HandS.ExcField
import HandS.TryMany
import HandS.Lambda
import HandS.EndTab
import HandS.Style
import HandS.More
import HandS.TupAny
import HandS.Wide
import HandS.WordsDict
import HandS.IsInst
import HandS.Zip
import KE.KExcSuper
import KE.KExcInit
import KE.RegKSuper
import HandS.Dict
import HandS.Codes
import HandS.SlotsOwn
import PyProof.Rows.PlainNe
import KE.GoesEnum
import PyProof.EnumMake
import HandS.TryOnly
import HandS.Conv
import PyProof.StrBlock2
import HandS.TupMul
import KE.KEqNest
import PyProof.NeKinds
import HandS.SortRule
import HandS.SortInts
import HandS.Deep
import HandS.TupSets
import HandS.DictTup
import HandS.Iter
import KE.SortData
import KE.SortCalls
import KE.LtSeq
import KE.KDictSum
import KE.KDictItemsList
import KE.KDictCopyH
import HandS.ExcValue
import HandS.ListItems
import KE.KDictPairs
import KE.KDictKeyed
import HandS.DictComp
import HandS.Comp
import KE.OsSortAny
import KE.KDictZip
import KE.KOpsOwn
import HandS.Head0
import HandS.Head1
import HandS.Head2
import HandS.HeadEnd
import HandS.HeadHook1
import HandS.HeadHook2
import HandS.HeadHook3
import HandS.HeadHook4
import HandS.HeadWalk
import HandS.Defaults
import KE.KRevSl
import HandS.SortOrd
import PyProof.TupleOfSeq
import KE.KEqDict
import HandS.ListEq
import HandS.TupLen
import KE.KDictWalk
import HandS.Flow
import KE.KDictDisplayH
import HandS.ExcIs
import HandS.MakeKw
import HandS.DeepEq
import PySem.Challenge.RW_weaktalks_k19_errors_made
set_option Elab.async false
set_option linter.all false
set_option maxRecDepth 100000
set_option maxHeartbeats 2000000
namespace DL
open PySem PySem.Spec PyProof.Rows L2
inductive D where
 | non | bl (b : Bool) | int (i : Int) | str (x : Str)
 | lst (l : List D) | tup (l : List D)
 | dct (ks : List Key) (l : List D)
 | obj (C : Addr) (ns : List Str) (l : List D)
 | ty (n : String)
 | ref (a : Addr)
 | exc (a dd C : Addr) (ns : List Str) (l : List D)
 | dic (ks : List Key) (l : List D)
 | tpf (l : List D)
 | gh (R : Hp → Addr → Prop)
mutual
inductive Rep (K : PySem.W.Frag) (k : Hp) : V → D → Prop
 | non : Rep K k .non .non
 | bl (b : Bool) : Rep K k (.bl b) (.bl b)
 | int (i : Int) : Rep K k (.int i) (.int i)
 | str (x : Str) : Rep K k (.str x) (.str x)
 | lst {a : Addr} {vs : List V} {ds : List D} : k a = some (.lst vs) → RepL K k vs ds → Rep K k (.ref a) (.lst ds)
 | tup {a : Addr} {vs : List V} {ds : List D} : SqT K k a vs → RepL K k vs ds → Rep K k (.ref a) (.tup ds)
 | dct {a : Addr} {kvs : List (Key × V)} {ks : List Key} {ds : List D} : k a = some (.dK kvs) → kvs.map (·.1) = ks → RepL K k (kvs.map (·.2)) ds → Rep K k (.ref a) (.dct ks ds)
 | obj {a C dx : Addr} {fs : List (Str × V)} {ns : List Str} {ds : List D} : k a = some (.ins C dx fs) → fs.map (·.1) = ns → RepL K k (fs.map (·.2)) ds → Rep K k (.ref a) (.obj C ns ds)
 | ty (n : String) : Rep K k (.ty n) (.ty n)
 | ref (a : Addr) : Rep K k (.ref a) (.ref a)
 | exc {a dd C : Addr} {fs : List (Str × V)} {ns : List Str} {ds : List D} : k dd = some (.xd fs) → fs.map (·.1) = ns → RepL K k (fs.map (·.2)) ds → Rep K k (.ref a) (.exc a dd C ns ds)
 | dic {a : Addr} {o : Obj} {kvs : List (Key × V)} {ks : List Key} {ds : List D} : k a = some (.frz o (.dK kvs)) → kvs.map (·.1) = ks → RepL K k (kvs.map (·.2)) ds → Rep K k (.ref a) (.dic ks ds)
 | tpf {a : Addr} {o : Obj} {vs : List V} {ds : List D} : k a = some (.frz o (.tup vs)) → o.dict = none → RepL K k vs ds → Rep K k (.ref a) (.tpf ds)
 | gh {a : Addr} {R : Hp → Addr → Prop} : (∀ k1 k2 : Hp, Same k1 k2 → R k1 a → R k2 a) → R k a → Rep K k (.ref a) (.gh R)
inductive RepL (K : PySem.W.Frag) (k : Hp) : List V → List D → Prop
 | nil : RepL K k [] []
 | cons {v : V} {vs : List V} {d : D} {ds : List D} : Rep K k v d → RepL K k vs ds → RepL K k (v :: vs) (d :: ds)
end
section
variable {K : PySem.W.Frag} {k k' : Hp}
theorem Same.rd (e : Same k k') {a : Addr} {u : HO} (h : Rd k a u) : Rd k' a u := by
 rcases h with h | ⟨o, h⟩
 ·exact .inl (e _ _ h)
 ·exact .inr ⟨o, e _ _ h⟩
theorem Same.sqt (e : Same k k') {a : Addr} {xs : List V} (h : SqT K k a xs) : SqT K k' a xs := by
 rcases h with h | h
 ·exact .inl (Same.rd e h)
 ·exact .inr h
mutual
theorem Rep.mono (e : Same k k') : ∀ {v : V} {d : D}, Rep K k v d → Rep K k' v d
 | _, _, .non => .non
 | _, _, .bl b => .bl b
 | _, _, .int i => .int i
 | _, _, .str x => .str x
 | _, _, .lst h r => .lst (e _ _ h) (RepL.mono e r)
 | _, _, .tup h r => .tup (Same.sqt e h) (RepL.mono e r)
 | _, _, .dct h q r => .dct (e _ _ h) q (RepL.mono e r)
 | _, _, .obj h q r => .obj (e _ _ h) q (RepL.mono e r)
 | _, _, .ty n => .ty n
 | _, _, .ref a => .ref a
 | _, _, .exc h q r => .exc (e _ _ h) q (RepL.mono e r)
 | _, _, .dic h q r => .dic (e _ _ h) q (RepL.mono e r)
 | _, _, .tpf h q r => .tpf (e _ _ h) q (RepL.mono e r)
 | _, _, .gh m h => .gh m (m _ _ e h)
theorem RepL.mono (e : Same k k') : ∀ {vs : List V} {ds : List D}, RepL K k vs ds → RepL K k' vs ds
 | _, _, .nil => .nil
 | _, _, .cons h r => .cons (Rep.mono e h) (RepL.mono e r)
end
theorem RepL.length : ∀ {vs : List V} {ds : List D}, RepL K k vs ds → vs.length = ds.length
 | _, _, .nil => rfl
 | _, _, .cons _ r => by rw [List.length_cons, List.length_cons, RepL.length r]
theorem RepL.get : ∀ {vs : List V} {ds : List D} {i : Nat} {d : D}, RepL K k vs ds → ds[i]? = some d → ∃ v, vs[i]? = some v ∧ Rep K k v d
 | _, _, _, _, .nil, e => by simp at e
 | _, _, 0, _, .cons h _, e => by simp at e; subst e; exact ⟨_, rfl, h⟩
 | _, _, i + 1, d, .cons _ r, e => by
  obtain ⟨v, h1, h2⟩ := RepL.get (i := i) (d := d) r (by simpa using e)
  exact ⟨v, by simpa using h1, h2⟩
theorem RepL.append : ∀ {vs ws : List V} {ds es : List D}, RepL K k vs ds → RepL K k ws es → RepL K k (vs ++ ws) (ds ++ es)
 | _, _, _, _, .nil, s => s
 | _, _, _, _, .cons h r, s => .cons h (RepL.append r s)
theorem RepL.take : ∀ {vs : List V} {ds : List D} (n : Nat), RepL K k vs ds → RepL K k (vs.take n) (ds.take n)
 | _, _, 0, _ => .nil
 | _, _, _ + 1, .nil => .nil
 | _, _, n + 1, .cons h r => .cons h (RepL.take n r)
theorem RepL.drop : ∀ {vs : List V} {ds : List D} (n : Nat), RepL K k vs ds → RepL K k (vs.drop n) (ds.drop n)
 | _, _, 0, r => r
 | _, _, _ + 1, .nil => .nil
 | _, _, n + 1, .cons _ r => RepL.drop n r
theorem RepL.reverse {vs : List V} {ds : List D} (h : RepL K k vs ds) : RepL K k vs.reverse ds.reverse := by
 induction h using RepL.rec (motive_1 := fun _ _ _ => True) with
 | nil => exact .nil
 | cons h r ih1 ih2 =>
  rw [List.reverse_cons, List.reverse_cons]
  exact RepL.append ih2 (.cons h .nil)
 | _ => trivial
theorem RepL.set {v : V} {d : D} (h : Rep K k v d) : ∀ {vs : List V} {ds : List D} (i : Nat), RepL K k vs ds → RepL K k (vs.set i v) (ds.set i d)
 | _, _, _, .nil => .nil
 | _, _, 0, .cons _ r => .cons h r
 | _, _, i + 1, .cons q r => .cons q (RepL.set h i r)
theorem RepL.eraseIdx : ∀ {vs : List V} {ds : List D} (i : Nat), RepL K k vs ds → RepL K k (vs.eraseIdx i) (ds.eraseIdx i)
 | _, _, _, .nil => .nil
 | _, _, 0, .cons _ r => r
 | _, _, i + 1, .cons q r => .cons q (RepL.eraseIdx i r)
theorem RepL.ints : ∀ {vs : List V} {ns : List Int}, RepL K k vs (ns.map D.int) → vs = ns.map V.int
 | _, [], .nil => rfl
 | _, n :: ns, .cons (.int _) r => by rw [List.map_cons, RepL.ints r]
theorem RepL.ofInts : ∀ (ns : List Int), RepL K k (ns.map V.int) (ns.map D.int)
 | [] => .nil
 | n :: ns => .cons (.int n) (RepL.ofInts ns)
end
structure Grow (W : Addr → Prop) (k h k' h' : Hp) : Prop where
 kk : Same k k'
 kh : Same k' h'
 hh : ∀ a o, ¬ W a → h a = some o → h' a = some o
 hd : ∀ a, h a ≠ none → h' a ≠ none
 dj : ∀ a, k a = none → h a ≠ none → k' a = none
 kt : ∀ a ps, k' a = some (.tbl ps) → k a = some (.tbl ps)
abbrev NT (o : HO) : Prop := ∀ ps, o ≠ .tbl ps
section
variable {W W' : Addr → Prop} {k h k' h' k2 h2 : Hp}
theorem Grow.refl (e : Same k h) : Grow W k h k h := ⟨Same.refl _, e, fun _ _ _ q => q, fun _ q => q, fun _ q _ => q, fun _ _ q => q⟩
theorem Grow.trans (a : Grow W k h k' h') (b : Grow W k' h' k2 h2) : Grow W k h k2 h2 :=
 ⟨a.kk.trans b.kk, b.kh, fun x o n q => b.hh x o n (a.hh x o n q), fun x q => b.hd x (a.hd x q), fun x q n => b.dj x (a.dj x q n) (a.hd x n), fun x ps q => a.kt x ps (b.kt x ps q)⟩
theorem Grow.wide (a : Grow W k h k' h') (s : ∀ x, W x → W' x) : Grow W' k h k' h' := ⟨a.kk, a.kh, fun x o n q => a.hh x o (fun z => n (s x z)) q, a.hd, a.dj, a.kt⟩
theorem same_new {H : Hp} {p : Addr} {o : HO} (h : H p = none) : Same H (upd H p o) := fun b x e => by
 rw [upd_ne (ne_of_none e h)]
 exact e
theorem Grow.new {p : Addr} {o : HO} (e : Same k h) (n : h p = none) (t : NT o) : Grow W k h (upd k p o) (upd h p o) := by
 have nk : k p = none := e.free n
 refine ⟨same_new nk, fun b x q => ?_, fun a x _ q => same_new n a x q, fun a q => ?_, fun a q z => ?_, fun a ps q => ?_⟩
 ·by_cases hb : b = p
  ·subst hb
   rw [upd_same] at q ⊢
   exact q
  ·rw [upd_ne hb] at q ⊢
   exact e _ _ q
 ·by_cases hb : a = p
  ·subst hb
   rw [upd_same]
   simp
  ·rw [upd_ne hb]
   exact q
 ·have hb : a ≠ p := fun y => z (by rw [y]; exact n)
  rw [upd_ne hb]
  exact q
 ·by_cases hb : a = p
  ·subst hb
   rw [upd_same] at q
   exact absurd (Option.some.inj q) (t ps)
  ·rw [upd_ne hb] at q
   exact q
theorem Grow.newU {p : Addr} {o : HO} (e : Same k h) (n : h p = none) : Grow W k h k (upd h p o) :=
 ⟨Same.refl _, e.trans (same_new n), fun a x _ q => same_new n a x q, fun a q => by
  by_cases hb : a = p
  ·subst hb
   rw [upd_same]
   simp
  ·rw [upd_ne hb]
   exact q, fun a q _ => q, fun _ _ q => q⟩
end
def IsExt : HO → Prop
 | .ext φ => ∃ c, ∀ h, φ h → ∃ o vs, h.get? c = some o ∧ o.data = .fields vs
 | _ => False
theorem isExt_code (c : Addr) (q : Str) : IsExt (LamX.CodeO c q) := ⟨c, fun _ ⟨oc, vs, _, h1, h2, _⟩ => ⟨oc, vs, h1, h2⟩⟩
inductive MO where
 | lst (l : List D)
 | ins (C dx : Addr) (ns : List Str) (l : List D)
 | dct (ks : List Key) (l : List D)
 | gen (R : Hp → Addr → HO → Prop) (mono : ∀ k k' a u, Same k k' → R k a u → R k' a u)
def MoR (K : PySem.W.Frag) (k h : Hp) (o : Addr) : MO → Prop
 | .lst ds => ∃ vs, h o = some (.lst vs) ∧ RepL K k vs ds
 | .ins C dx ns ds => ∃ fs : List (Str × V), h o = some (.ins C dx fs) ∧ fs.map (·.1) = ns ∧ RepL K k (fs.map (·.2)) ds
 | .dct ks ds => ∃ kvs : List (Key × V), h o = some (.dK kvs) ∧ kvs.map (·.1) = ks ∧ RepL K k (kvs.map (·.2)) ds
 | .gen R _ => ∃ u, h o = some u ∧ ¬ IsExt u ∧ NT u ∧ R k o u
structure Res where
 W : Addr → Prop
 I : Nat → Hp → Prop
 st : ∀ b h h', (∀ a o, W a ∨ IsExt o → h a = some o → h' a = some o) → I b h → I b h'
def Res.none : Res := ⟨fun _ => False, fun _ _ => True, fun _ _ _ _ h => h⟩
structure Sta where
 δ : List (Option D)
 m : List (Addr × MO) := []
 b : Nat := 0
structure Cn where
 K : PySem.W.Frag
 R : Res
 k0 : Hp
 h0 : Hp
 fr : Bool := true
 kb : Hp := fun _ => none
structure SR (c : Cn) (ς : Sta) (σ : L2.St) (k h : Hp) : Prop where
 g : Grow c.R.W c.k0 c.h0 k h
 i : c.R.I ς.b h
 w : ∀ a, c.R.W a → c.k0 a = none ∧ c.h0 a ≠ none
 s : ∀ (i : Nat) (d : D), ς.δ[i]? = some (some d) → ∃ v, σ[i]? = some (some v) ∧ Rep c.K k v d
 m : ∀ p ∈ ς.m, k p.1 = none ∧ (c.h0 p.1 = none ∨ (c.fr = false ∧ c.R.W p.1)) ∧ MoR c.K k h p.1 p.2
 nd : (ς.m.map (·.1)).Nodup
 len : ς.δ.length = σ.length
 kb : Same c.kb k
section
variable {c : Cn} {ς : Sta} {σ : L2.St} {k h k' h' : Hp}
theorem SR.kh (S : SR c ς σ k h) : Same k h := S.g.kh
theorem MoR.step {K : PySem.W.Frag} {o : Addr} {mo : MO} (r : MoR K k h o mo) (e : Same k k') (hh : ∀ a u, h a = some u → h' a = some u) : MoR K k' h' o mo := by
 cases mo with
 | lst ds => obtain ⟨vs, q, r⟩ := r; exact ⟨vs, hh _ _ q, r.mono e⟩
 | ins C dx ns ds => obtain ⟨fs, q, n, r⟩ := r; exact ⟨fs, hh _ _ q, n, r.mono e⟩
 | dct ks ds => obtain ⟨kvs, q, n, r⟩ := r; exact ⟨kvs, hh _ _ q, n, r.mono e⟩
 | gen R mo => obtain ⟨u, q, n, t, r⟩ := r; exact ⟨u, hh _ _ q, n, t, mo _ _ _ _ e r⟩
theorem MoR.there {K : PySem.W.Frag} {o : Addr} {mo : MO} (r : MoR K k h o mo) : h o ≠ none := by
 cases mo with
 | lst ds => obtain ⟨vs, q, _⟩ := r; rw [q]; simp
 | ins C dx ns ds => obtain ⟨fs, q, _⟩ := r; rw [q]; simp
 | dct ks ds => obtain ⟨kvs, q, _⟩ := r; rw [q]; simp
 | gen R mo => obtain ⟨u, q, _⟩ := r; rw [q]; simp
theorem SR.grow (S : SR c ς σ k h) (g : Grow (fun _ => False) k h k' h') : SR c ς σ k' h' := by
 have hh : ∀ a o, h a = some o → h' a = some o := fun a o q => g.hh a o (fun z => z) q
 refine ⟨S.g.trans (g.wide fun _ z => z.elim), c.R.st _ _ _ (fun a o _ q => hh a o q) S.i, S.w, fun i d q => ?_, fun p hp => ?_, S.nd, S.len, S.kb.trans g.kk⟩
 ·obtain ⟨v, e, r⟩ := S.s i d q
  exact ⟨v, e, r.mono g.kk⟩
 ·obtain ⟨a, b, r⟩ := S.m p hp
  exact ⟨g.dj _ a r.there, b, r.step g.kk hh⟩
end
end DL
set_option Elab.async false
set_option linter.all false
set_option maxRecDepth 100000
set_option maxHeartbeats 2000000
namespace DL
open PySem PySem.Spec PyProof.Rows L2
def WE (c : Cn) (te : TE) (ς : Sta) (Φ : D → Sta → Prop) : Prop :=
 ∀ (σ : L2.St) (k h : Hp), SR c ς σ k h → ∀ Q : VK, (∀ v k' h' d ς', SR c ς' σ k' h' → Same k k' → Rep c.K k' v d → Φ d ς' → Q v h') → te σ h Q
def WL (c : Cn) (ta : TA) (ς : Sta) (Φ : List D → Sta → Prop) : Prop :=
 ∀ (σ : L2.St) (k h : Hp), SR c ς σ k h → ∀ Q : List V → Hp → Prop, (∀ vs k' h' ds ς', SR c ς' σ k' h' → Same k k' → RepL c.K k' vs ds → Φ ds ς' → Q vs h') → ta σ h Q
def WT (c : Cn) (tt : TT) (ς : Sta) (Φ : Bool → Sta → Prop) : Prop :=
 ∀ (σ : L2.St) (k h : Hp), SR c ς σ k h → ∀ Q : Bool → Hp → Prop, (∀ b k' h' ς', SR c ς' σ k' h' → Same k k' → Φ b ς' → Q b h') → tt σ h Q
def WG (c : Cn) (g : TG) (d : D) (ς : Sta) (Φ : Sta → Prop) : Prop :=
 ∀ (σ : L2.St) (k h : Hp) (v : V), SR c ς σ k h → Rep c.K k v d → ∀ Q : L2.St → Hp → Prop, (∀ σ' k' h' ς', SR c ς' σ' k' h' → Same k k' → Φ ς' → Q σ' h') → g v σ h Q
def WGs (c : Cn) (g : TGs) (ds : List D) (ς : Sta) (Φ : Sta → Prop) : Prop :=
 ∀ (σ : L2.St) (k h : Hp) (vs : List V), SR c ς σ k h → RepL c.K k vs ds → ∀ Q : L2.St → Hp → Prop, (∀ σ' k' h' ς', SR c ς' σ' k' h' → Same k k' → Φ ς' → Q σ' h') → g vs σ h Q
structure Psi where
 nx : Sta → Prop
 rt : D → Sta → Prop
 bk : Sta → Prop := fun _ => False
 ct : Sta → Prop := fun _ => False
structure EndOk (c : Cn) (k : Hp) (Ψ : Psi) (E : Ends) : Prop where
 nx : ∀ σ' k' h' ς', SR c ς' σ' k' h' → Same k k' → Ψ.nx ς' → E.nx σ' h'
 bk : ∀ σ' k' h' ς', SR c ς' σ' k' h' → Same k k' → Ψ.bk ς' → E.bk σ' h'
 ct : ∀ σ' k' h' ς', SR c ς' σ' k' h' → Same k k' → Ψ.ct ς' → E.ct σ' h'
 rt : ∀ v σ' k' h' d ς', SR c ς' σ' k' h' → Same k k' → Rep c.K k' v d → Ψ.rt d ς' → E.rt v h'
theorem EndOk.later {c : Cn} {k k' : Hp} {Ψ : Psi} {E : Ends} (o : EndOk c k Ψ E) (e : Same k k') : EndOk c k' Ψ E :=
 ⟨fun a b d f s q => o.nx a b d f s (e.trans q), fun a b d f s q => o.bk a b d f s (e.trans q), fun a b d f s q => o.ct a b d f s (e.trans q), fun a b d f g i s q => o.rt a b d f g i s (e.trans q)⟩
def WS (c : Cn) (ts : TS) (ς : Sta) (Ψ : Psi) : Prop :=
 ∀ (σ : L2.St) (k h : Hp), SR c ς σ k h → ∀ E : Ends, EndOk c k Ψ E → ts E σ h
def RD (K : PySem.W.Frag) (r : R2) (d1 d2 : D) (Φ : D → Prop) : Prop :=
 ∀ (k h : Hp) (v1 v2 : V), Same k h → Rep K k v1 d1 → Rep K k v2 d2 → ∀ Q : VK, (∀ v k' h' d, Grow (fun _ => False) k h k' h' → Rep K k' v d → Φ d → Q v h') → r v1 v2 h Q
def RU (K : PySem.W.Frag) (r : V → Hp → VK → Prop) (d1 : D) (Φ : D → Prop) : Prop :=
 ∀ (k h : Hp) (v1 : V), Same k h → Rep K k v1 d1 → ∀ Q : VK, (∀ v k' h' d, Grow (fun _ => False) k h k' h' → Rep K k' v d → Φ d → Q v h') → r v1 h Q
def RC (K : PySem.W.Frag) (r : List V → Hp → VK → Prop) (ds : List D) (Φ : D → Prop) : Prop :=
 ∀ (k h : Hp) (vs : List V), Same k h → RepL K k vs ds → ∀ Q : VK, (∀ v k' h' d, Grow (fun _ => False) k h k' h' → Rep K k' v d → Φ d → Q v h') → r vs h Q
structure StK (c : Cn) (k h : Hp) : Prop where
 same : Same k h
 sr : ∃ (ς : Sta) (σ : L2.St) (k' : Hp), SR c ς σ k' h ∧ Same k k'
structure WalkD (c : Cn) (J : It) (k : Hp) (ds : List D) : Prop where
 goes : ∀ i h, i < ds.length → StK c k h → J.go i h
 stops : ∀ h, StK c k h → J.stop ds.length h
 yields : ∀ i h x h' d, ds[i]? = some d → J.yld i h x h' → ∀ kc, Same k kc → StK c kc h → ∃ k', Grow (fun _ => False) kc h k' h' ∧ Rep c.K k' x d
def WI (c : Cn) (wi : TI) (ς : Sta) (Φ : List D → Sta → Prop) : Prop :=
 ∀ (σ : L2.St) (k h : Hp), SR c ς σ k h → ∀ R : It → Hp → Prop, (∀ J k' h' ds ς', SR c ς' σ k' h' → Same k k' → WalkD c J k' ds → Φ ds ς' → R J h') → wi σ h R
section
variable {c : Cn} {ς : Sta} {Φ : D → Sta → Prop} {Ψ : Psi}
theorem we_var {i : Nat} {d : D} (e : ς.δ[i]? = some (some d)) (q : Φ d ς) : WE c (tVar i) ς Φ := fun σ k h S Q z => by
 obtain ⟨v, hv, r⟩ := S.s i d e
 exact ⟨v, hv, z v k h d ς S (Same.refl _) r q⟩
theorem Rep.weakT {K : PySem.W.Frag} {k : Hp} {v : V} {l : List D} (r : Rep K k v (.tpf l)) : Rep K k v (.tup l) := by
 cases r with
 | tpf h _ r => exact .tup (.inl (.inr ⟨_, h⟩)) r
theorem we_weak {te : TE} (h : WE c te ς fun d ς1 => ∃ l, d = .tpf l ∧ Φ (.tup l) ς1) : WE c te ς Φ := fun σ k hh S Q z =>
 h σ k hh S Q fun v k' h' d ς' S' e r ⟨l, ed, q⟩ => z v k' h' (.tup l) ς' S' e (by subst ed; exact r.weakT) q
theorem we_int {i : Int} (q : Φ (.int i) ς) : WE c (tC (.int i)) ς Φ := fun σ k h S Q z => z _ k h _ ς S (Same.refl _) (.int i) q
theorem we_bl {b : Bool} (q : Φ (.bl b) ς) : WE c (tC (.bl b)) ς Φ := fun σ k h S Q z => z _ k h _ ς S (Same.refl _) (.bl b) q
theorem we_str {x : Str} (q : Φ (.str x) ς) : WE c (tC (.str x)) ς Φ := fun σ k h S Q z => z _ k h _ ς S (Same.refl _) (.str x) q
theorem we_non (q : Φ .non ς) : WE c (tC .non) ς Φ := fun σ k h S Q z => z _ k h _ ς S (Same.refl _) .non q
theorem we_ty {n : String} (q : Φ (.ty n) ς) : WE c (tC (.ty n)) ς Φ := fun σ k h S Q z => z _ k h _ ς S (Same.refl _) (.ty n) q
theorem we_ref {a : Addr} (q : Φ (.ref a) ς) : WE c (tC (.ref a)) ς Φ := fun σ k h S Q z => z _ k h _ ς S (Same.refl _) (.ref a) q
theorem ws_mono {ts : TS} {Ψ' : Psi} (h : WS c ts ς Ψ') (q1 : ∀ ς', Ψ'.nx ς' → Ψ.nx ς') (q2 : ∀ d b, Ψ'.rt d b → Ψ.rt d b) (q3 : ∀ ς', Ψ'.bk ς' → Ψ.bk ς') (q4 : ∀ ς', Ψ'.ct ς' → Ψ.ct ς') : WS c ts ς Ψ := fun σ k hh S E z =>
 h σ k hh S E ⟨fun a b d f s q p => z.nx a b d f s q (q1 _ p), fun a b d f s q p => z.bk a b d f s q (q3 _ p), fun a b d f s q p => z.ct a b d f s q (q4 _ p), fun a b d f g i s q r p => z.rt a b d f g i s q r (q2 _ _ p)⟩
theorem we_op {r : R2} {ta tb : TE} (h : WE c ta ς fun d1 ς1 => WE c tb ς1 fun d2 ς2 => RD c.K r d1 d2 fun d => Φ d ς2) : WE c (tOp r ta tb) ς Φ := fun σ k hh S Q z =>
 h σ k hh S _ fun v1 k1 h1 d1 ς1 S1 e1 r1 q1 => q1 σ k1 h1 S1 _ fun v2 k2 h2 d2 ς2 S2 e2 r2 q2 =>
  q2 k2 h2 v1 v2 S2.kh (r1.mono e2) r2 Q fun v k' h' d g rr q => z v k' h' d ς2 (S2.grow g) ((e1.trans e2).trans g.kk) rr q
theorem we_un {r : V → Hp → VK → Prop} {ta : TE} (h : WE c ta ς fun d1 ς1 => RU c.K r d1 fun d => Φ d ς1) : WE c (tUn r ta) ς Φ := fun σ k hh S Q z =>
 h σ k hh S _ fun v1 k1 h1 d1 ς1 S1 e1 r1 q1 => q1 k1 h1 v1 S1.kh r1 Q fun v k' h' d g rr q => z v k' h' d ς1 (S1.grow g) (e1.trans g.kk) rr q
theorem we_and {ta tb : TE} (h : WE c ta ς fun d1 ς1 => ∃ b, d1 = .bl b ∧ (b = true → WE c tb ς1 Φ) ∧ (b = false → Φ (.bl false) ς1)) : WE c (tAndV ta tb) ς Φ := fun σ k hh S Q z =>
 h σ k hh S _ fun v1 k1 h1 d1 ς1 S1 e1 r1 ⟨b, eb, q1, q2⟩ => by
  subst eb
  cases r1
  refine ⟨b, rfl, ?_⟩
  cases b with
  | true => exact iteT (q1 rfl σ k1 h1 S1 Q fun v k' h' d ς' S' e r q => z v k' h' d ς' S' (e1.trans e) r q)
  | false => exact iteF (z _ k1 h1 _ ς1 S1 e1 (.bl false) (q2 rfl))
theorem we_or {ta tb : TE} (h : WE c ta ς fun d1 ς1 => ∃ b, d1 = .bl b ∧ (b = false → WE c tb ς1 Φ) ∧ (b = true → Φ (.bl true) ς1)) : WE c (tOrV ta tb) ς Φ := fun σ k hh S Q z =>
 h σ k hh S _ fun v1 k1 h1 d1 ς1 S1 e1 r1 ⟨b, eb, q1, q2⟩ => by
  subst eb
  cases r1
  refine ⟨b, rfl, ?_⟩
  cases b with
  | false => exact iteF (q1 rfl σ k1 h1 S1 Q fun v k' h' d ς' S' e r q => z v k' h' d ς' S' (e1.trans e) r q)
  | true => exact iteT (z _ k1 h1 _ ς1 S1 e1 (.bl true) (q2 rfl))
theorem we_not {ta : TE} (h : WE c ta ς fun d1 ς1 => ∃ b, d1 = .bl b ∧ Φ (.bl (!b)) ς1) : WE c (tNotV ta) ς Φ := fun σ k hh S Q z =>
 h σ k hh S _ fun v1 k1 h1 d1 ς1 S1 e1 r1 ⟨b, eb, q1⟩ => by
  subst eb
  cases r1
  exact ⟨b, rfl, z _ k1 h1 _ ς1 S1 e1 (.bl _) q1⟩
theorem we_if {t : TT} {ta tb : TE} (h : WT c t ς fun b ς1 => (b = true → WE c ta ς1 Φ) ∧ (b = false → WE c tb ς1 Φ)) : WE c (tIf t ta tb) ς Φ := fun σ k hh S Q z =>
 h σ k hh S _ fun b k1 h1 ς1 S1 e1 ⟨q1, q2⟩ => by
  cases b with
  | true => exact iteT (q1 rfl σ k1 h1 S1 Q fun v k' h' d ς' S' e r q => z v k' h' d ς' S' (e1.trans e) r q)
  | false => exact iteF (q2 rfl σ k1 h1 S1 Q fun v k' h' d ς' S' e r q => z v k' h' d ς' S' (e1.trans e) r q)
theorem wl_nil {Φ : List D → Sta → Prop} (q : Φ [] ς) : WL c tNil ς Φ := fun σ k h S Q z => z [] k h [] ς S (Same.refl _) .nil q
theorem wl_cons {Φ : List D → Sta → Prop} {te : TE} {ta : TA} (h : WE c te ς fun d ς1 => WL c ta ς1 fun ds ς2 => Φ (d :: ds) ς2) : WL c (tCons te ta) ς Φ := fun σ k hh S Q z =>
 h σ k hh S _ fun v k1 h1 d ς1 S1 e1 r1 q1 => q1 σ k1 h1 S1 _ fun vs k2 h2 ds ς2 S2 e2 r2 q2 => z (v :: vs) k2 h2 (d :: ds) ς2 S2 (e1.trans e2) (.cons (r1.mono e2) r2) q2
theorem we_lst {ta : TA} (h : WL c ta ς fun ds ς1 => ds.length ≤ sizeLine ∧ Φ (.lst ds) ς1) : WE c (tLst ta) ς Φ := fun σ k hh S Q z =>
 h σ k hh S _ fun vs k1 h1 ds ς1 S1 e1 r1 ⟨l, q⟩ => ⟨by rw [r1.length]; exact l, fun p n =>
  have g : Grow (fun _ => False) k1 h1 (upd k1 p (.lst vs)) (upd h1 p (.lst vs)) := Grow.new S1.kh n (by nofun)
  z (.ref p) _ _ _ ς1 (S1.grow g) (e1.trans g.kk) (.lst upd_same (r1.mono g.kk)) q⟩
theorem we_lstM {ta : TA} (h : WL c ta ς fun ds ς1 => ds.length ≤ sizeLine ∧ ∀ p, (∀ x ∈ ς1.m, x.1 ≠ p) → Φ (.ref p) { ς1 with m := (p, .lst ds) :: ς1.m }) : WE c (tLst ta) ς Φ := fun σ k hh S Q z =>
 h σ k hh S _ fun vs k1 h1 ds ς1 S1 e1 r1 ⟨l, q⟩ => ⟨by rw [r1.length]; exact l, fun p n => by
  have g : Grow (fun _ => False) k1 h1 k1 (upd h1 p (.lst vs)) := Grow.newU S1.kh n
  have S2 := S1.grow g
  have np : ∀ x ∈ ς1.m, x.1 ≠ p := fun x hx e => (S1.m x hx).2.2.there (by rw [e]; exact n)
  refine z (.ref p) k1 _ _ _ ?_ e1 (.ref p) (q p np)
  refine ⟨S2.g, S2.i, S2.w, S2.s, fun x hx => ?_, ?_, S2.len, S2.kb⟩
  ·rcases List.mem_cons.mp hx with e | hx
   ·subst e
    refine ⟨S1.kh.free n, ?_, ⟨vs, upd_same, r1⟩⟩
    cases y : c.h0 p with
    | none => exact .inl rfl
    | some o => exact absurd n (S1.g.hd p (by rw [y]; simp))
   ·exact S2.m x hx
  ·rw [List.map_cons]
   refine List.nodup_cons.mpr ⟨fun hm => ?_, S1.nd⟩
   obtain ⟨x, hx, e⟩ := List.mem_map.mp hm
   exact np x hx e⟩
theorem we_tup {ta : TA} (h : WL c ta ς fun ds ς1 => ds.length ≤ sizeLine ∧ Φ (.tup ds) ς1) : WE c (tTup ta) ς Φ := fun σ k hh S Q z =>
 h σ k hh S _ fun vs k1 h1 ds ς1 S1 e1 r1 ⟨l, q⟩ => ⟨by rw [r1.length]; exact l, fun p n =>
  have g : Grow (fun _ => False) k1 h1 (upd k1 p (.tup vs)) (upd h1 p (.tup vs)) := Grow.new S1.kh n (by nofun)
  z (.ref p) _ _ _ ς1 (S1.grow g) (e1.trans g.kk) (.tup (.inl (.inl upd_same)) (r1.mono g.kk)) q⟩
theorem we_cb {r : List V → Hp → VK → Prop} {ta : TA} (h : WL c ta ς fun ds ς1 => RC c.K r ds fun d => Φ d ς1) : WE c (tCB r ta) ς Φ := fun σ k hh S Q z =>
 h σ k hh S _ fun vs k1 h1 ds ς1 S1 e1 r1 q1 => q1 k1 h1 vs S1.kh r1 Q fun v k' h' d g rr q => z v k' h' d ς1 (S1.grow g) (e1.trans g.kk) rr q
theorem wt_B {Φ : Bool → Sta → Prop} {te : TE} (h : WE c te ς fun d ς1 => ∃ b, d = .bl b ∧ Φ b ς1) : WT c (tB te) ς Φ := fun σ k hh S Q z =>
 h σ k hh S _ fun v k1 h1 d ς1 S1 e1 r1 ⟨b, eb, q⟩ => by
  subst eb
  cases r1
  exact ⟨b, rfl, z b k1 h1 ς1 S1 e1 q⟩
theorem wt_test {Φ : Bool → Sta → Prop} {te : TE} (h : WE c te ς fun d ς1 => ∃ b, d = .bl b ∧ Φ b ς1) : WT c (tTest te) ς Φ := fun σ k hh S Q z =>
 h σ k hh S _ fun v k1 h1 d ς1 S1 e1 r1 ⟨b, eb, q⟩ => by
  subst eb
  cases r1
  exact ⟨b, rfl, z b k1 h1 ς1 S1 e1 q⟩
theorem wt_and {Φ : Bool → Sta → Prop} {t u : TT} (h : WT c t ς fun b ς1 => (b = true → WT c u ς1 Φ) ∧ (b = false → Φ false ς1)) : WT c (tAnd t u) ς Φ := fun σ k hh S Q z =>
 h σ k hh S _ fun b k1 h1 ς1 S1 e1 ⟨q1, q2⟩ => by
  cases b with
  | true => exact iteT (q1 rfl σ k1 h1 S1 Q fun b k' h' ς' S' e q => z b k' h' ς' S' (e1.trans e) q)
  | false => exact iteF (z false k1 h1 ς1 S1 e1 (q2 rfl))
theorem wt_or {Φ : Bool → Sta → Prop} {t u : TT} (h : WT c t ς fun b ς1 => (b = false → WT c u ς1 Φ) ∧ (b = true → Φ true ς1)) : WT c (tOr t u) ς Φ := fun σ k hh S Q z =>
 h σ k hh S _ fun b k1 h1 ς1 S1 e1 ⟨q1, q2⟩ => by
  cases b with
  | false => exact iteF (q1 rfl σ k1 h1 S1 Q fun b k' h' ς' S' e q => z b k' h' ς' S' (e1.trans e) q)
  | true => exact iteT (z true k1 h1 ς1 S1 e1 (q2 rfl))
theorem wt_not {Φ : Bool → Sta → Prop} {t : TT} (h : WT c t ς fun b ς1 => Φ (!b) ς1) : WT c (tNot t) ς Φ := fun σ k hh S Q z =>
 h σ k hh S _ fun b k1 h1 ς1 S1 e1 q => z (!b) k1 h1 ς1 S1 e1 q
theorem wt_yes {Φ : Bool → Sta → Prop} (q : Φ true ς) : WT c tYes ς Φ := fun σ k hh S Q z => z true k hh ς S (Same.refl _) q
theorem ws_seq {t u : TS} (h : WS c t ς { Ψ with nx := fun ς1 => WS c u ς1 Ψ }) : WS c (tSeq t u) ς Ψ := fun σ k hh S E z =>
 h σ k hh S { E with nx := u E } ⟨fun a b d f s q p => p a b d s E (z.later q), z.bk, z.ct, z.rt⟩
theorem ws_next (q : Ψ.nx ς) : WS c tNext ς Ψ := fun σ k hh S E z => z.nx σ k hh ς S (Same.refl _) q
theorem ws_break (q : Ψ.bk ς) : WS c tBreak ς Ψ := fun σ k hh S E z => z.bk σ k hh ς S (Same.refl _) q
theorem ws_cont (q : Ψ.ct ς) : WS c tCont ς Ψ := fun σ k hh S E z => z.ct σ k hh ς S (Same.refl _) q
theorem ws_ret {te : TE} (h : WE c te ς fun d ς1 => Ψ.rt d ς1) : WS c (tRet te) ς Ψ := fun σ k hh S E z =>
 h σ k hh S _ fun v k1 h1 d ς1 S1 e1 r1 q => z.rt v σ k1 h1 d ς1 S1 e1 r1 q
theorem ws_retN (q : Ψ.rt .non ς) : WS c tRetN ς Ψ := fun σ k hh S E z => z.rt .non σ k hh .non ς S (Same.refl _) .non q
theorem ws_if {t : TT} {a b : TS} (h : WT c t ς fun x ς1 => (x = true → WS c a ς1 Ψ) ∧ (x = false → WS c b ς1 Ψ)) : WS c (tIfS t a b) ς Ψ := fun σ k hh S E z =>
 h σ k hh S _ fun x k1 h1 ς1 S1 e1 ⟨q1, q2⟩ => by
  cases x with
  | true => exact iteT (q1 rfl σ k1 h1 S1 E (z.later e1))
  | false => exact iteF (q2 rfl σ k1 h1 S1 E (z.later e1))
theorem ws_drop {te : TE} (h : WE c te ς fun _ ς1 => Ψ.nx ς1) : WS c (tDrop te) ς Ψ := fun σ k hh S E z =>
 h σ k hh S _ fun v k1 h1 d ς1 S1 e1 r1 q => z.nx σ k1 h1 ς1 S1 e1 q
theorem SR.set {σ : L2.St} {k h : Hp} {i : Nat} {v : V} {d : D} (S : SR c ς σ k h) (r : Rep c.K k v d) (hi : i < ς.δ.length) : SR c { ς with δ := ς.δ.set i (some d) } (σ.set i (some v)) k h := by
 refine ⟨S.g, S.i, S.w, fun j e q => ?_, S.m, S.nd, by rw [List.length_set, List.length_set]; exact S.len, S.kb⟩
 by_cases hj : j = i
 ·subst hj
  have q' : (ς.δ.set j (some d))[j]? = some (some e) := q
  rw [List.getElem?_set_self hi] at q'
  cases q'
  exact ⟨v, by rw [List.getElem?_set_self (by rw [← S.len]; exact hi)], r⟩
 ·have q' : (ς.δ.set i (some d))[j]? = some (some e) := q
  rw [List.getElem?_set_ne (fun z => hj z.symm)] at q'
  obtain ⟨w, e1, e2⟩ := S.s j e q'
  exact ⟨w, by rw [List.getElem?_set_ne (fun z => hj z.symm)]; exact e1, e2⟩
theorem wg_name {i : Nat} {d : D} {Φ : Sta → Prop} (hi : i < ς.δ.length) (q : Φ { ς with δ := ς.δ.set i (some d) }) : WG c (gName i) d ς Φ := fun σ k h v S r Q z =>
 z _ k h _ (S.set r hi) (Same.refl _) q
theorem wgs_nil {Φ : Sta → Prop} (q : Φ ς) : WGs c gNil [] ς Φ := fun σ k h vs S r Q z => by
 cases r
 exact ⟨rfl, z σ k h ς S (Same.refl _) q⟩
theorem wgs_cons {g : TG} {gs : TGs} {d : D} {ds : List D} {Φ : Sta → Prop} (h : WG c g d ς fun ς1 => WGs c gs ds ς1 Φ) : WGs c (gCons g gs) (d :: ds) ς Φ := fun σ k hh vs S r Q z => by
 cases r with
 | cons r1 r2 =>
  exact ⟨_, _, rfl, h σ k hh _ S r1 _ fun σ1 k1 h1 ς1 S1 e1 q1 => q1 σ1 k1 h1 _ S1 (r2.mono e1) Q fun σ2 k2 h2 ς2 S2 e2 q => z σ2 k2 h2 ς2 S2 (e1.trans e2) q⟩
theorem wg_tup {n : Nat} {gs : TGs} {ds : List D} {Φ : Sta → Prop} (hn : ds.length = n) (h : WGs c gs ds ς Φ) : WG c (gTup c.K n gs) (.tup ds) ς Φ := fun σ k hh v S r Q z => by
 cases r with
 | tup e r => exact ⟨_, _, rfl, Same.sqt S.kh e, by rw [r.length]; exact hn, h σ k hh _ S r Q z⟩
theorem ws_asg {te : TE} {g : TG} (h : WE c te ς fun d ς1 => WG c g d ς1 Ψ.nx) : WS c (tAsg te g) ς Ψ := fun σ k hh S E z =>
 h σ k hh S _ fun v k1 h1 d ς1 S1 e1 r1 q => q σ k1 h1 v S1 r1 _ fun σ2 k2 h2 ς2 S2 e2 q2 => z.nx σ2 k2 h2 ς2 S2 (e1.trans e2) q2
theorem ws_par {i j : Nat} {ta : TA} (h : WL c ta ς fun ds ς1 => ∃ d e, ds = [d, e] ∧ i < ς1.δ.length ∧ j < ς1.δ.length ∧ Ψ.nx { ς1 with δ := (ς1.δ.set i (some d)).set j (some e) }) : WS c (tPar i j ta) ς Ψ := fun σ k hh S E z =>
 h σ k hh S _ fun vs k1 h1 ds ς1 S1 e1 r1 ⟨d, e, ed, hi, hj, q⟩ => by
  subst ed
  cases r1 with
  | cons ra r1 => cases r1 with
   | cons rb r1 =>
    cases r1
    exact ⟨_, _, rfl, z.nx _ k1 h1 _ ((S1.set ra hi).set (i := j) rb (by show j < (ς1.δ.set i _).length; rw [List.length_set]; exact hj)) e1 q⟩
end
end DL
set_option Elab.async false
set_option linter.all false
set_option maxRecDepth 100000
set_option maxHeartbeats 2000000
namespace DL
open PySem PySem.Spec PyProof.Rows L2
theorem WalkD.walk {c : Cn} {J : It} {k : Hp} {ds : List D} (w : WalkD c J k ds) : Walk J ds.length (fun h => StK c k h) (fun i h x h' => J.yld i h x h') :=
 ⟨fun i h hi e => w.goes i h hi e, fun h e => w.stops h e, fun _ _ _ _ _ _ y => y⟩
def wipeD (δ : List (Option D)) : List Nat → List (Option D)
 | [] => δ
 | v :: vs => (wipeD δ vs).set v none
theorem wipeD_length (δ : List (Option D)) : ∀ vs : List Nat, (wipeD δ vs).length = δ.length
 | [] => rfl
 | v :: vs => by unfold wipeD; rw [List.length_set, wipeD_length δ vs]
theorem wipeD_some {δ : List (Option D)} {i : Nat} {x : D} : ∀ {vs : List Nat}, (wipeD δ vs)[i]? = some (some x) → δ[i]? = some (some x) ∧ i ∉ vs
 | [], h => ⟨h, by simp⟩
 | v :: vs, h => by
  unfold wipeD at h
  by_cases hi : v = i
  ·subst hi
   by_cases hv : v < (wipeD δ vs).length
   ·rw [List.getElem?_set_self hv] at h; cases h
   ·rw [List.getElem?_eq_none (by simpa using hv)] at h; cases h
  ·rw [List.getElem?_set_ne hi] at h
   obtain ⟨h1, h2⟩ := wipeD_some h
   exact ⟨h1, by simp only [List.mem_cons, not_or]; exact ⟨fun e => hi e.symm, h2⟩⟩
theorem wipe_out {σ : L2.St} {i : Nat} : ∀ {vs : List Nat}, i ∉ vs → (wipe σ vs)[i]? = σ[i]?
 | [], _ => rfl
 | v :: vs, h => by
  unfold wipe
  simp only [List.mem_cons, not_or] at h
  rw [List.getElem?_set_ne (fun z => h.1 z.symm)]
  exact wipe_out h.2
theorem wipe_set {σ : L2.St} {i : Nat} {v : Option V} : ∀ {vs : List Nat}, i ∈ vs → wipe (σ.set i v) vs = wipe σ vs
 | [], h => by simp at h
 | w :: vs, h => by
  unfold wipe
  by_cases e : i ∈ vs
  ·rw [wipe_set e]
  ·have ew : i = w := by
    rcases List.mem_cons.mp h with e' | e'
    ·exact e'
    ·exact absurd e' e
   subst ew
   have key : ∀ us : List Nat, wipe (σ.set i v) us = (wipe σ us).set i v ∨ wipe (σ.set i v) us = wipe σ us := by
    intro us
    induction us with
    | nil => exact .inl rfl
    | cons u us ih =>
     unfold wipe
     rcases ih with ih | ih
     ·rw [ih]
      by_cases eu : u = i
      ·subst eu
       rw [List.set_set]
       exact .inr rfl
      ·rw [List.set_comm _ _ (fun z => eu z.symm)]
       exact .inl rfl
     ·rw [ih]
      exact .inr rfl
   rcases key vs with q | q
   ·rw [q, List.set_set]
   ·rw [q]
theorem wipe_idem {σ : L2.St} {vs : List Nat} : wipe (wipe σ vs) vs = wipe σ vs := by
 refine List.ext_getElem? fun i => ?_
 by_cases h : i ∈ vs
 ·have key : ∀ (τ : L2.St) (us : List Nat), i ∈ us → ∀ x, (wipe τ us)[i]? ≠ some (some x) := fun τ us hm x z => (wipe_some z).2 hm
  have l1 : (wipe (wipe σ vs) vs).length = (wipe σ vs).length := wipe_length _ _
  cases a : (wipe (wipe σ vs) vs)[i]? with
  | none =>
   cases b : (wipe σ vs)[i]? with
   | none => rfl
   | some y =>
    have := List.getElem?_eq_none_iff.mp a
    have := (List.getElem?_eq_some_iff.mp b).1
    omega
  | some x =>
   cases b : (wipe σ vs)[i]? with
   | none =>
    have := List.getElem?_eq_none_iff.mp b
    have := (List.getElem?_eq_some_iff.mp a).1
    omega
   | some y =>
    cases x with
    | some x => exact absurd a (key _ _ h x)
    | none => cases y with
     | some y => exact absurd b (key _ _ h y)
     | none => rfl
 ·rw [wipe_out h]
section
variable {c : Cn} {ς : Sta} {Φ : D → Sta → Prop} {Ψ : Psi}
theorem SR.wipe {σ : L2.St} {k h : Hp} (vs : List Nat) (S : SR c ς σ k h) : SR c { ς with δ := wipeD ς.δ vs } (wipe σ vs) k h := by
 refine ⟨S.g, S.i, S.w, fun j e q => ?_, S.m, S.nd, by rw [wipeD_length, wipe_length]; exact S.len, S.kb⟩
 obtain ⟨q1, q2⟩ := wipeD_some q
 obtain ⟨v, e1, e2⟩ := S.s j e q1
 exact ⟨v, by rw [wipe_out q2]; exact e1, e2⟩
def KG (g : TG) (vs : List Nat) : Prop := ∀ v σ h Q, g v σ h Q → g v σ h fun σ2 h2 => L2.wipe σ2 vs = L2.wipe σ vs ∧ Q σ2 h2
theorem kg_name {i : Nat} {vs : List Nat} (hi : i ∈ vs) : KG (gName i) vs := fun v σ h Q q => ⟨wipe_set hi, q⟩
theorem ws_for {wi : TI} {g : TG} {tb : TS} (h : WI c wi ς fun ds ς1 => ∃ Jv : Nat → Sta → Prop, Jv 0 ς1 ∧
  (∀ i d ς2, ds[i]? = some d → Jv i ς2 → WG c g d ς2 fun ς3 => WS c tb ς3 { nx := Jv (i + 1), ct := Jv (i + 1), bk := Ψ.nx, rt := Ψ.rt }) ∧ ∀ ς2, Jv ds.length ς2 → Ψ.nx ς2) : WS c (tFor wi g tb) ς Ψ := fun σ k hh S E z =>
 h σ k hh S _ fun J k1 h1 ds ς1 S1 e1 w ⟨Jv, j0, js, jd⟩ => for_it w.walk (fun i σ h => ∃ k ς, SR c ς σ k h ∧ Same k1 k ∧ Jv i ς) ⟨k1, ς1, S1, Same.refl _, j0⟩
  (fun i σ H _ ⟨k, ς, S, e, _⟩ => ⟨e.trans S.kh, ς, σ, k, S, e⟩)
  (fun i x σ H H' hi ⟨k, ς2, S2, e2, j2⟩ y => by
   obtain ⟨k', g', r'⟩ := w.yields i H x H' ds[i] (by simp [hi]) y k e2 ⟨S2.kh, _, _, k, S2, Same.refl _⟩
   refine js i ds[i] ς2 (by simp [hi]) j2 σ k' H' x (S2.grow g') r' _ fun σ3 k3 h3 ς3 S3 e3 q3 => q3 σ3 k3 h3 S3 _ ?_
   have ek : Same k k3 := g'.kk.trans e3
   exact ⟨fun a b d f s q p => ⟨b, f, s, (e2.trans ek).trans q, p⟩, fun a b d f s q p => z.nx a b d f s (((e1.trans e2).trans ek).trans q) p, fun a b d f s q p => ⟨b, f, s, (e2.trans ek).trans q, p⟩,
    fun a b d f g i s q r p => z.rt a b d f g i s (((e1.trans e2).trans ek).trans q) r p⟩)
  fun σ H ⟨k, ς, S, e, j⟩ => z.nx σ k H ς S (e1.trans e) (jd ς j)
theorem we_lc {wi : TI} {g : TG} {tt : TT} {te : TE} {vs : List Nat} (kg : KG g vs) (h : WI c wi ς fun ds ς1 => ∃ Jv : Nat → List D → Nat → Prop, Jv 0 [] ς1.b ∧
  (∀ i d acc b D, ds[i]? = some d → Jv i acc b → WG c g d { δ := wipeD ς1.δ vs, m := (D, .lst acc) :: ς1.m, b := b } fun ς2 => WT c tt ς2 fun x ς3 =>
   (x = true → WE c te ς3 fun e ς4 => acc.length < sizeLine ∧ ς4.m = (D, .lst acc) :: ς1.m ∧ Jv (i + 1) (acc ++ [e]) ς4.b) ∧ (x = false → ς3.m = (D, .lst acc) :: ς1.m ∧ Jv (i + 1) acc ς3.b)) ∧
  ∀ acc b, Jv ds.length acc b → Φ (.lst acc) { ς1 with b := b }) : WE c (tLc wi g tt te vs) ς Φ := fun σ k hh S Q z =>
 h σ k hh S _ fun J k1 h1 ds ς1 S1 e1 w ⟨Jv, j0, js, jd⟩ L nL => by
  have lower : ∀ {m : List (Addr × MO)} {δ : List (Option D)} {τ : L2.St} {b : Nat} {k2 h2 : Hp}, SR c ⟨δ, m, b⟩ τ k2 h2 → Same k1 k2 → SR c { ς1 with m := m, b := b } σ k2 h2 := fun {m δ τ b k2 h2} S2 e =>
   ⟨S2.g, S2.i, S2.w, fun i d q => by
    obtain ⟨v, a, r⟩ := S1.s i d q
    exact ⟨v, a, r.mono e⟩, S2.m, S2.nd, S1.len, S2.kb⟩
  have nk : k1 L = none := S1.kh.free nL
  have nm : ∀ x ∈ ς1.m, x.1 ≠ L := fun x hx e => (S1.m x hx).2.2.there (by rw [e]; exact nL)
  have n0 : c.h0 L = none := by
   cases y : c.h0 L with
   | none => rfl
   | some o => exact absurd nL (S1.g.hd L (by rw [y]; simp))
  refine lc_it w.walk (fun i h => ∃ k acc b, SR c { ς1 with m := (L, .lst acc) :: ς1.m, b := b } σ k h ∧ Same k1 k ∧ Jv i acc b) ⟨k1, [], ς1.b, ?_, Same.refl _, j0⟩ (fun i H _ ⟨k, acc, b, S, e, _⟩ => ⟨e.trans S.kh, _, _, k, S, e⟩) ?_ ?_
  ·have g : Grow (fun _ => False) k1 h1 k1 (upd h1 L (.lst [])) := Grow.newU S1.kh nL
   have S2 := S1.grow g
   refine ⟨S2.g, S2.i, S2.w, S2.s, fun x hx => ?_, ?_, S2.len, S2.kb⟩
   ·rcases List.mem_cons.mp hx with e | hx
    ·subst e
     exact ⟨nk, .inl n0, [], upd_same, .nil⟩
    ·exact S2.m x hx
   ·rw [List.map_cons]
    refine List.nodup_cons.mpr ⟨fun hm => ?_, S1.nd⟩
    obtain ⟨x, hx, e⟩ := List.mem_map.mp hm
    exact nm x hx e
  ·rintro i x H H' hi ⟨k, acc, b, S2, e2, j2⟩ y
   obtain ⟨k', g', r'⟩ := w.yields i H x H' ds[i] (by simp [hi]) y k e2 ⟨S2.kh, _, _, k, S2, Same.refl _⟩
   have S3 := (S2.grow g').wipe vs
   have q := js i ds[i] acc b L (by simp [hi]) j2 (L2.wipe σ vs) k' H' x S3 r' _ (fun σ4 k4 h4 ς4 S4 e4 q4 => q4 σ4 k4 h4 S4 (fun b H3 => if b = true then te σ4 H3 fun y H4 => ∃ ac, H4 L = some (.lst ac) ∧ ac.length < sizeLine ∧ (∃ k acc b, SR c { ς1 with m := (L, .lst acc) :: ς1.m, b := b } σ k (upd H4 L (.lst (ac ++ [y])))  ∧ Same k1 k ∧ Jv (i + 1) acc b) else ∃ k acc b, SR c { ς1 with m := (L, .lst acc) :: ς1.m, b := b } σ k H3 ∧ Same k1 k ∧ Jv (i + 1) acc b) ?_)
   ·have q' := kg _ _ _ _ q
    have wi : L2.wipe (L2.wipe σ vs) vs = L2.wipe σ vs := wipe_idem
    rw [wi] at q'
    exact q'
   ·intro bb k5 h5 ς5 S5 e5 ⟨qt, qf⟩
    have e15 : Same k1 k5 := (e2.trans g'.kk).trans (e4.trans e5)
    cases bb with
    | false =>
     obtain ⟨em, j⟩ := qf rfl
     obtain ⟨δ5, m5, b5⟩ := ς5
     have em : m5 = _ := em
     subst em
     exact iteF ⟨k5, acc, b5, lower S5 e15, e15, j⟩
    | true =>
     refine iteT (qt rfl σ4 k5 h5 S5 _ fun y k6 h6 d ς6 S6 e6 r6 ⟨l, em, j⟩ => ?_)
     obtain ⟨δ6, m6, b6⟩ := ς6
     have em : m6 = _ := em
     subst em
     have S7 := lower S6 (e15.trans e6)
     obtain ⟨n1, n2, vs', hv, rv⟩ := S7.m (L, .lst acc) List.mem_cons_self
     have n1 : k6 L = none := n1
     have hv : h6 L = some (.lst vs') := hv
     have rv : RepL c.K k6 vs' acc := rv
     have nW : ∀ a o, c.R.W a ∨ IsExt o → h6 a = some o → a ≠ L := fun a o wa q e => by
      rcases wa with wa | wa
      ·exact (S7.w a wa).2 (by rw [e]; exact n0)
      ·rw [e, hv] at q
       cases q
       exact wa
     refine ⟨vs', hv, by rw [rv.length]; exact l, k6, acc ++ [d], b6, ?_, e15.trans e6, j⟩
     have sk : Same k6 (upd h6 L (.lst (vs' ++ [y]))) := fun a o q => by
      have ne : a ≠ L := fun e => by rw [e, n1] at q; cases q
      rw [upd_ne ne]
      exact S7.kh _ _ q
     refine ⟨⟨S7.g.kk, sk, fun a o na q => ?_, fun a q => ?_, S7.g.dj, S7.g.kt⟩, c.R.st _ _ _ (fun a o wa q => by rw [upd_ne (nW a o wa q)]; exact q) S7.i, S7.w, S7.s, fun x hx => ?_, S7.nd, S7.len, S7.kb⟩
     ·have ne : a ≠ L := fun e => by rw [e, n0] at q; cases q
      rw [upd_ne ne]
      exact S7.g.hh a o na q
     ·by_cases e : a = L
      ·rw [e, upd_same]; simp
      ·rw [upd_ne e]; exact S7.g.hd a q
     ·rcases List.mem_cons.mp hx with e | hx'
      ·subst e
       exact ⟨n1, n2, vs' ++ [y], upd_same, rv.append (.cons r6 .nil)⟩
      ·obtain ⟨a1, a2, a3⟩ := S7.m x (List.mem_cons_of_mem _ hx')
       have ne : x.1 ≠ L := nm x hx'
       refine ⟨a1, a2, ?_⟩
       obtain ⟨xo, xm⟩ := x
       cases xm with
       | lst ds =>
        obtain ⟨us, q, r⟩ := a3
        exact ⟨us, by rw [upd_ne ne]; exact q, r⟩
       | ins C dx ns ds =>
        obtain ⟨fs, q, n, r⟩ := a3
        exact ⟨fs, by rw [upd_ne ne]; exact q, n, r⟩
       | dct ks ds =>
        obtain ⟨kvs, q, n, r⟩ := a3
        exact ⟨kvs, by rw [upd_ne ne]; exact q, n, r⟩
       | gen R mo =>
        obtain ⟨u, q, n, t, r⟩ := a3
        exact ⟨u, by rw [upd_ne ne]; exact q, n, t, r⟩
  ·rintro H ⟨k, acc, b, S2, e2, j2⟩
   obtain ⟨n1, n2, vs', hv, rv⟩ := S2.m (L, .lst acc) List.mem_cons_self
   have n1 : k L = none := n1
   have hv : H L = some (.lst vs') := hv
   have rv : RepL c.K k vs' acc := rv
   have kk : Same k (upd k L (.lst vs')) := same_new n1
   have kh : Same (upd k L (.lst vs')) H := fun a o q => by
    by_cases e : a = L
    ·rw [e, upd_same] at q
     rw [e, hv]
     exact q
    ·rw [upd_ne e] at q
     exact S2.kh _ _ q
   refine z (.ref L) (upd k L (.lst vs')) H (.lst acc) { ς1 with b := b } ?_ ((e1.trans e2).trans kk) (.lst upd_same (rv.mono kk)) (jd acc b j2)
   refine ⟨⟨S2.g.kk.trans kk, kh, S2.g.hh, S2.g.hd, fun a q n => ?_, fun a ps q => ?_⟩, S2.i, S2.w, fun i d q => ?_, fun x hx => ?_, (List.nodup_cons.mp (by have := S2.nd; rwa [List.map_cons] at this)).2, S2.len, S2.kb.trans kk⟩
   ·have ne : a ≠ L := fun e => n (by rw [e]; exact n0)
    rw [upd_ne ne]
    exact S2.g.dj a q n
   ·by_cases e : a = L
    ·rw [e, upd_same] at q; cases q
    ·rw [upd_ne e] at q; exact S2.g.kt a ps q
   ·obtain ⟨v, a, r⟩ := S2.s i d q
    exact ⟨v, a, r.mono kk⟩
   ·obtain ⟨a1, a2, a3⟩ := S2.m x (List.mem_cons_of_mem _ hx)
    exact ⟨by rw [upd_ne (nm x hx)]; exact a1, a2, a3.step kk fun _ _ q => q⟩
end
end DL
set_option Elab.async false
set_option linter.all false
set_option maxRecDepth 100000
set_option maxHeartbeats 2000000
namespace DL
open PySem PySem.Spec PyProof.Rows L2
mutual
def D.toPy : D → PyData
 | .non => .none
 | .bl b => .bool b
 | .int i => .int i
 | .str x => .str x
 | .lst l => .list (toPyL l)
 | .tup l => .tuple (toPyL l)
 | .dct _ _ => .dict []
 | .dic _ _ => .dict []
 | .tpf l => .tuple (toPyL l)
 | .obj _ _ _ => .dict []
 | .ty _ => .dict []
 | .ref _ => .dict []
 | .exc _ _ _ _ _ => .dict []
 | .gh _ => .dict []
def toPyL : List D → List PyData
 | [] => []
 | d :: ds => d.toPy :: toPyL ds
end
mutual
theorem Rep.dp {K : PySem.W.Frag} {k : Hp} : ∀ {d : D} {v : V}, Rep K k v d → d.toPy.canLay0 = true → Dp K k v d.toPy
 | .non, _, .non, _ => .non
 | .bl b, _, .bl _, _ => .bl b
 | .int i, _, .int _, _ => .int i
 | .str x, _, .str _, _ => .str x
 | .lst l, _, .lst h r, q => .lst (SqL.of h) (RepL.dp r q)
 | .tup l, _, .tup h r, q => .tup h (RepL.dp r q)
 | .dct _ _, _, _, q => by cases q
 | .dic _ _, _, _, q => by cases q
 | .tpf l, _, .tpf h _ r, q => .tup (.inl (.inr ⟨_, h⟩)) (RepL.dp r q)
 | .obj _ _ _, _, _, q => by cases q
 | .ty _, _, _, q => by cases q
 | .ref _, _, _, q => by cases q
 | .exc _ _ _ _ _, _, _, q => by cases q
 | .gh _, _, _, q => by cases q
theorem RepL.dp {K : PySem.W.Frag} {k : Hp} : ∀ {ds : List D} {vs : List V}, RepL K k vs ds → PyData.canLayAll0 (toPyL ds) = true → DpAll K k vs (toPyL ds)
 | [], _, .nil, _ => .nil
 | d :: ds, _, .cons h r, q => by
  have q' : (d.toPy.canLay0 && PyData.canLayAll0 (toPyL ds)) = true := q
  obtain ⟨q1, q2⟩ := Bool.and_eq_true_iff.mp q'
  exact .cons (Rep.dp h q1) (RepL.dp r q2)
end
theorem SqL.up {K : PySem.W.Frag} {k h : Hp} {a : Addr} {xs : List V} (e : Same k h) (q : SqL K k a xs) : SqL K h a xs := e.seq q
mutual
theorem Dp.up {K : PySem.W.Frag} {k h : Hp} (e : Same k h) : ∀ {v : V} {d : PyData}, Dp K k v d → Dp K h v d
 | _, _, .non => .non
 | _, _, .bl b => .bl b
 | _, _, .int i => .int i
 | _, _, .str x => .str x
 | _, _, .lst q r => .lst (e.seq q) (DpAll.up e r)
 | _, _, .tup q r => .tup (Same.sqt e q) (DpAll.up e r)
theorem DpAll.up {K : PySem.W.Frag} {k h : Hp} (e : Same k h) : ∀ {vs : List V} {ds : List PyData}, DpAll K k vs ds → DpAll K h vs ds
 | _, _, .nil => .nil
 | _, _, .cons q r => .cons (Dp.up e q) (DpAll.up e r)
end
abbrev No : Addr → Prop := fun _ => False
section
variable {K : PySem.W.Frag} {Φ : D → Prop}
def rAddK (K : PySem.W.Frag) : R2 := fun x y H Q => rI0 (fun i j => .int (i + j)) x y H Q ∨ (∃ i j, x = .str i ∧ y = .str j ∧ i.length + j.length ≤ sizeLine ∧ Q (.str (i ++ j)) H) ∨ rCat x y H Q ∨ rCatA K x y H Q
theorem op_addK {X : Cx} : OpR X (binaryOp .Add) (rAddK X.K) := op_add.or (op_add_str.or (op_cat.or op_catA))
theorem rd_add_int {i j : Int} (q : Φ (.int (i + j))) : RD K (rAddK K) (.int i) (.int j) Φ := fun k h v1 v2 e r1 r2 Q z => by
 cases r1; cases r2
 exact .inl ⟨i, j, rfl, rfl, z _ k h _ (Grow.refl e) (.int _) q⟩
theorem rd_add_lst {xs ys : List D} (l : xs.length + ys.length ≤ sizeLine) (q : Φ (.lst (xs ++ ys))) : RD K (rAddK K) (.lst xs) (.lst ys) Φ := fun k h v1 v2 e r1 r2 Q z => by
 cases r1 with
 | lst h1 r1 => cases r2 with
  | lst h2 r2 =>
   refine .inr (.inr (.inl ⟨_, _, _, _, rfl, rfl, e _ _ h1, e _ _ h2, by rw [r1.length, r2.length]; exact l, fun p n => ?_⟩))
   have g : ∀ {o}, NT o → Grow No k h (upd k p o) (upd h p o) := fun t => Grow.new e n t
   exact z _ _ _ _ (g (by nofun)) (.lst upd_same ((r1.append r2).mono (g (by nofun)).kk)) q
def rSubK : R2 := rI0 fun i j => .int (i - j)
theorem rd_sub {i j : Int} (q : Φ (.int (i - j))) : RD K rSubK (.int i) (.int j) Φ := fun k h v1 v2 e r1 r2 Q z => by
 cases r1; cases r2
 exact ⟨i, j, rfl, rfl, z _ k h _ (Grow.refl e) (.int _) q⟩
def rMulK : R2 := fun x y H Q => rI CMulW (fun i j => .int (i * j)) x y H Q ∨ rI CMul (fun i j => .int (i * j)) x y H Q ∨ rRep x y H Q
theorem op_mulK {X : Cx} : OpR X (binaryOp .Mult) rMulK := op_mulW.or (op_mul.or op_rep)
theorem rd_mul {i j : Int} (l : CMul i j) (q : Φ (.int (i * j))) : RD K rMulK (.int i) (.int j) Φ := fun k h v1 v2 e r1 r2 Q z => by
 cases r1; cases r2
 exact .inr (.inl ⟨i, j, rfl, rfl, l, z _ k h _ (Grow.refl e) (.int _) q⟩)
def rModK : R2 := rI (fun _ j => 0 < j) fun i j => .int (i % j)
theorem op_modK {X : Cx} : OpR X (binaryOp .Mod) rModK := op_mod
theorem rd_mod {i j : Int} (l : 0 < j) (q : Φ (.int (i % j))) : RD K rModK (.int i) (.int j) Φ := fun k h v1 v2 e r1 r2 Q z => by
 cases r1; cases r2
 exact ⟨i, j, rfl, rfl, l, z _ k h _ (Grow.refl e) (.int _) q⟩
def rDivK : R2 := rI CDivW fun i j => .int (i / j)
theorem op_divK {X : Cx} : OpR X (binaryOp .FloorDiv) rDivK := op_fdivW
theorem rd_div {i j : Int} (l : CDivW i j) (q : Φ (.int (i / j))) : RD K rDivK (.int i) (.int j) Φ := fun k h v1 v2 e r1 r2 Q z => by
 cases r1; cases r2
 exact ⟨i, j, rfl, rfl, l, z _ k h _ (Grow.refl e) (.int _) q⟩
def rPowK : R2 := rI CPow fun i j => .int (i ^ j.toNat)
theorem op_powK {X : Cx} : OpR X (binaryOp .Pow) rPowK := op_pow
theorem rd_pow {i j : Int} (l : CPow i j) (q : Φ (.int (i ^ j.toNat))) : RD K rPowK (.int i) (.int j) Φ := fun k h v1 v2 e r1 r2 Q z => by
 cases r1; cases r2
 exact ⟨i, j, rfl, rfl, l, z _ k h _ (Grow.refl e) (.int _) q⟩
def rNegK : V → Hp → VK → Prop := rU fun i => .int (-i)
theorem un_negK {X : Cx} : UnR X (unaryOp .USub) rNegK := un_neg
theorem ru_neg {i : Int} (q : Φ (.int (-i))) : RU K rNegK (.int i) Φ := fun k h v1 e r1 Q z => by
 cases r1
 exact ⟨i, rfl, z _ k h _ (Grow.refl e) (.int _) q⟩
def rLtK : R2 := rI0 fun i j => .bl (decide (i < j))
def rLeK : R2 := rI0 fun i j => .bl (decide (i ≤ j))
def rGtK : R2 := rI0 fun i j => .bl (decide (j < i))
def rGeK : R2 := rI0 fun i j => .bl (decide (j ≤ i))
theorem op_gtK {X : Cx} : OpR X (compareOp .Gt) rGtK := op_gt
theorem op_geK {X : Cx} : OpR X (compareOp .GtE) rGeK := op_ge
theorem rd_lt {i j : Int} (q : Φ (.bl (decide (i < j)))) : RD K rLtK (.int i) (.int j) Φ := fun k h v1 v2 e r1 r2 Q z => by
 cases r1; cases r2
 exact ⟨i, j, rfl, rfl, z _ k h _ (Grow.refl e) (.bl _) q⟩
theorem rd_le {i j : Int} (q : Φ (.bl (decide (i ≤ j)))) : RD K rLeK (.int i) (.int j) Φ := fun k h v1 v2 e r1 r2 Q z => by
 cases r1; cases r2
 exact ⟨i, j, rfl, rfl, z _ k h _ (Grow.refl e) (.bl _) q⟩
theorem rd_gt {i j : Int} (q : Φ (.bl (decide (j < i)))) : RD K rGtK (.int i) (.int j) Φ := fun k h v1 v2 e r1 r2 Q z => by
 cases r1; cases r2
 exact ⟨i, j, rfl, rfl, z _ k h _ (Grow.refl e) (.bl _) q⟩
theorem rd_ge {i j : Int} (q : Φ (.bl (decide (j ≤ i)))) : RD K rGeK (.int i) (.int j) Φ := fun k h v1 v2 e r1 r2 Q z => by
 cases r1; cases r2
 exact ⟨i, j, rfl, rfl, z _ k h _ (Grow.refl e) (.bl _) q⟩
def rEqDc : R2 := fun x y H Q => ∃ a b kvs, x = .ref a ∧ y = .ref b ∧ H a = some (.dK kvs) ∧ H b = some (.dK kvs) ∧ (kvs.map (·.1)).Nodup ∧ (∀ p ∈ kvs, flatB p.2 = true) ∧ Q (.bl true) H
def rEqK (K : PySem.W.Frag) : R2 := fun x y H Q => rEq x y H Q ∨ rEqD K x y H Q ∨ rEqDc x y H Q
def rNeK (K : PySem.W.Frag) : R2 := fun x y H Q => rNe x y H Q ∨ rNeD K x y H Q
theorem op_eqK {X : Cx} (hu : X.A.units + 64 < cLine) : OpR X (compareOp .Eq) (rEqK X.K) := op_eq.or (OpR.or (op_eqD hu) (op_eq_dict (by omega)))
theorem op_neK {X : Cx} (hu : X.A.units + 64 < cLine) : OpR X (compareOp .NotEq) (rNeK X.K) := op_ne.or (op_neD hu)
theorem decInt {i j : Int} : decide (V.int i = V.int j) = decide (i = j) := by
 by_cases h : i = j
 ·subst h; simp
 ·have n : ¬ V.int i = V.int j := fun z => h (V.int.inj z)
  rw [decide_eq_false h, decide_eq_false n]
theorem decStr {i j : Str} : decide (V.str i = V.str j) = decide (i = j) := by
 by_cases h : i = j
 ·subst h; simp
 ·have n : ¬ V.str i = V.str j := fun z => h (V.str.inj z)
  rw [decide_eq_false h, decide_eq_false n]
theorem decBl {i j : Bool} : decide (V.bl i = V.bl j) = decide (i = j) := by
 by_cases h : i = j
 ·subst h; simp
 ·have n : ¬ V.bl i = V.bl j := fun z => h (V.bl.inj z)
  rw [decide_eq_false h, decide_eq_false n]
theorem rd_eq_int {i j : Int} (q : Φ (.bl (decide (i = j)))) : RD K (rEqK K) (.int i) (.int j) Φ := fun k h v1 v2 e r1 r2 Q z => by
 cases r1; cases r2
 exact .inl ⟨rfl, z _ k h _ (Grow.refl e) (.bl _) (by rw [decInt]; exact q)⟩
theorem rd_ne_int {i j : Int} (q : Φ (.bl (!decide (i = j)))) : RD K (rNeK K) (.int i) (.int j) Φ := fun k h v1 v2 e r1 r2 Q z => by
 cases r1; cases r2
 exact .inl ⟨rfl, z _ k h _ (Grow.refl e) (.bl _) (by rw [decInt]; exact q)⟩
theorem rd_eq_str {i j : Str} (q : Φ (.bl (decide (i = j)))) : RD K (rEqK K) (.str i) (.str j) Φ := fun k h v1 v2 e r1 r2 Q z => by
 cases r1; cases r2
 exact .inl ⟨rfl, z _ k h _ (Grow.refl e) (.bl _) (by rw [decStr]; exact q)⟩
theorem rd_ne_str {i j : Str} (q : Φ (.bl (!decide (i = j)))) : RD K (rNeK K) (.str i) (.str j) Φ := fun k h v1 v2 e r1 r2 Q z => by
 cases r1; cases r2
 exact .inl ⟨rfl, z _ k h _ (Grow.refl e) (.bl _) (by rw [decStr]; exact q)⟩
theorem rd_eq_bl {i j : Bool} (q : Φ (.bl (decide (i = j)))) : RD K (rEqK K) (.bl i) (.bl j) Φ := fun k h v1 v2 e r1 r2 Q z => by
 cases r1; cases r2
 exact .inl ⟨rfl, z _ k h _ (Grow.refl e) (.bl _) (by rw [decBl]; exact q)⟩
theorem rd_ne_bl {i j : Bool} (q : Φ (.bl (!decide (i = j)))) : RD K (rNeK K) (.bl i) (.bl j) Φ := fun k h v1 v2 e r1 r2 Q z => by
 cases r1; cases r2
 exact .inl ⟨rfl, z _ k h _ (Grow.refl e) (.bl _) (by rw [decBl]; exact q)⟩
theorem rd_ne_py {d1 d2 : D} (h1 : SeqAt.shaped d1.toPy = true) (h2 : SeqAt.shaped d2.toPy = true) (q : Φ (.bl (!PyData.eqv d1.toPy d2.toPy))) : RD K (rNeK K) d1 d2 Φ := fun k h v1 v2 e r1 r2 Q z =>
 .inr ⟨_, _, Dp.up e (r1.dp (SeqAt.canLay_of_shaped h1)), Dp.up e (r2.dp (SeqAt.canLay_of_shaped h2)), h1, h2, z _ k h _ (Grow.refl e) (.bl _) q⟩
def isNon : D → Bool
 | .non => true
 | _ => false
def rIsK : R2 := fun x y H Q => (y = .non ∧ Q (.bl (decide (x = .non))) H) ∨ rIsB x y H Q
def rIsnotK : R2 := fun x y H Q => y = .non ∧ Q (.bl (!decide (x = .non))) H
theorem Rep.isNon {k : Hp} {v : V} {d : D} (r : Rep K k v d) : decide (v = .non) = DL.isNon d := by cases r <;> first | rfl | simp [DL.isNon]
theorem rd_is {d : D} (q : Φ (.bl (isNon d))) : RD K rIsK d .non Φ := fun k h v1 v2 e r1 r2 Q z => by
 cases r2
 exact .inl ⟨rfl, z _ k h _ (Grow.refl e) (.bl _) (by rw [r1.isNon]; exact q)⟩
theorem rd_is_bl {a b : Bool} (q : Φ (.bl (decide (a = b)))) : RD K rIsK (.bl a) (.bl b) Φ := fun k h v1 v2 e r1 r2 Q z => by
 cases r1; cases r2
 exact .inr ⟨a, b, rfl, rfl, z _ k h _ (Grow.refl e) (.bl _) q⟩
theorem rd_isnot {d : D} (q : Φ (.bl (!isNon d))) : RD K rIsnotK d .non Φ := fun k h v1 v2 e r1 r2 Q z => by
 cases r2
 exact ⟨rfl, z _ k h _ (Grow.refl e) (.bl _) (by rw [r1.isNon]; exact q)⟩
def seqOf : D → Option (List D)
 | .lst l => some l
 | .tup l => some l
 | .tpf l => some l
 | _ => none
theorem Rep.seq {k h : Hp} {v : V} {d : D} {l : List D} (e : Same k h) (r : Rep K k v d) (q : seqOf d = some l) : ∃ p xs, v = .ref p ∧ (SqL K h p xs ∨ SqT K h p xs) ∧ RepL K k xs l := by
 cases r <;> cases q
 ·rename_i a vs hk hr
  exact ⟨_, _, rfl, .inl (SqL.of (e _ _ hk)), hr⟩
 ·rename_i a vs hk hr
  exact ⟨_, _, rfl, .inr (Same.sqt e hk), hr⟩
 ·rename_i a o vs hk hd hr
  exact ⟨_, _, rfl, .inr (.inl (.inr ⟨_, e _ _ hk⟩)), hr⟩
def rIxK (K : PySem.W.Frag) : R2 := rIx K
theorem ix_K {X : Cx} : IxR X (rIxK X.K) := ix_seq
theorem RepL.atI {k : Hp} {vs : List V} {ds : List D} {i : Int} {d : D} (r : RepL K k vs ds) (q : L2.atI ds i = some d) : ∃ v, L2.atI vs i = some v ∧ Rep K k v d := by
 unfold L2.atI at q ⊢
 rw [r.length]
 cases e : ixN ds.length i with
 | none => rw [e] at q; cases q
 | some j =>
  rw [e] at q
  exact r.get q
theorem rd_ix {x : D} {l : List D} {i : Int} {d : D} (hx : seqOf x = some l) (ha : atI l i = some d) (q : Φ d) : RD K (rIxK K) x (.int i) Φ := fun k h v1 v2 e r1 r2 Q z => by
 obtain ⟨p, xs, rfl, s, r⟩ := r1.seq e hx
 cases r2
 obtain ⟨v, hv, rv⟩ := r.atI ha
 rcases s with s | s
 ·exact .inl ⟨p, xs, i, v, rfl, rfl, s, hv, z v k h d (Grow.refl e) rv q⟩
 ·exact .inr (.inl ⟨p, xs, i, v, rfl, rfl, s, hv, z v k h d (Grow.refl e) rv q⟩)
def rLenK (K : PySem.W.Frag) : List V → Hp → VK → Prop := fun xs H Q => (∃ p ys, xs = [.ref p] ∧ (SqL K H p ys ∨ SqT K H p ys) ∧ Q (.int ys.length) H) ∨ (∃ z, xs = [.str z] ∧ z.length ≤ sizeLine ∧ Q (.int z.length) H) ∨
 ∃ a kvs, xs = [V.ref a] ∧ H a = some (.dK kvs) ∧ Q (.int kvs.length) H
theorem CallR.or {X : Cx} {f : Value} {r r' : List V → Hp → VK → Prop} (h : CallR X f r) (h' : CallR X f r') : CallR X f fun xs H Q => r xs H Q ∨ r' xs H Q := fun pins s σ H xs us Q I rr q => by
 rcases q with q | q
 ·exact h pins s σ H xs us Q I rr q
 ·exact h' pins s σ H xs us Q I rr q
theorem call_lenK {X : Cx} : CallR X (.builtin "len") (rLenK X.K) := CallR.or call_len_seq (CallR.or call_len_str call_lenD)
theorem rc_len {x : D} {l : List D} (hx : seqOf x = some l) (q : Φ (.int l.length)) : RC K (rLenK K) [x] Φ := fun k h vs e r Q z => by
 cases r with
 | cons r1 r2 =>
  cases r2
  obtain ⟨p, xs, rfl, s, r⟩ := r1.seq e hx
  exact .inl ⟨p, xs, rfl, s, z _ k h _ (Grow.refl e) (by rw [r.length]; exact .int _) q⟩
def rIntK : List V → Hp → VK → Prop := fun xs H Q => (∃ i, xs = [.int i] ∧ Q (.int i) H) ∨ ∃ k, xs = [.bl k] ∧ Q (.int (if k then 1 else 0)) H
theorem call_intK {X : Cx} : CallR X (.type "int") rIntK := call_int1
theorem rc_int {i : Int} (q : Φ (.int i)) : RC K rIntK [.int i] Φ := fun k h vs e r Q z => by
 cases r with
 | cons r1 r2 =>
  cases r2; cases r1
  exact .inl ⟨i, rfl, z _ k h _ (Grow.refl e) (.int _) q⟩
def rAbsK : List V → Hp → VK → Prop := fun xs H Q => ∃ i, xs = [.int i] ∧ Q (.int (if i < 0 then -i else i)) H
theorem rc_abs {i : Int} (q : Φ (.int (if i < 0 then -i else i))) : RC K rAbsK [.int i] Φ := fun k h vs e r Q z => by
 cases r with
 | cons r1 r2 =>
  cases r2; cases r1
  exact ⟨i, rfl, z _ k h _ (Grow.refl e) (.int _) q⟩
def rListK (K : PySem.W.Frag) : List V → Hp → VK → Prop := fun xs H Q => ∃ p ys, xs = [.ref p] ∧ (SqL K H p ys ∨ SqT K H p ys) ∧ ∀ l, H l = none → Q (.ref l) (upd H l (.lst ys))
theorem call_listK {X : Cx} : CallR X (.type "list") (rListK X.K) := call_list_of
def rTupK (K : PySem.W.Frag) : List V → Hp → VK → Prop := fun xs H Q => ∃ p ys, xs = [.ref p] ∧ ((SqL K H p ys ∧ ∀ l, H l = none → Q (.ref l) (upd H l (.tup ys))) ∨ (SqT K H p ys ∧ Q (.ref p) H))
theorem call_tupK {X : Cx} : CallR X (.type "tuple") (rTupK X.K) := call_tuple_of
theorem RepL.bls {k : Hp} : ∀ {vs : List V} {bs : List Bool}, RepL K k vs (bs.map D.bl) → vs = bs.map V.bl
 | _, [], .nil => rfl
 | _, b :: bs, .cons (.bl _) r => by rw [List.map_cons, RepL.bls r]
theorem rc_any {bs : List Bool} (q : Φ (.bl (bs.any id))) : RC K (rAny K) [.lst (bs.map D.bl)] Φ := fun k h vs e r Q z => by
 cases r with
 | cons r1 r2 =>
  cases r2
  cases r1 with
  | lst h1 r1 =>
   have ev := r1.bls
   subst ev
   exact ⟨_, bs, rfl, SqL.of (e _ _ h1), z _ k h _ (Grow.refl e) (.bl _) q⟩
theorem rc_all {bs : List Bool} (q : Φ (.bl (bs.all id))) : RC K (rAll K) [.lst (bs.map D.bl)] Φ := fun k h vs e r Q z => by
 cases r with
 | cons r1 r2 =>
  cases r2
  cases r1 with
  | lst h1 r1 =>
   have ev := r1.bls
   subst ev
   exact ⟨_, bs, rfl, SqL.of (e _ _ h1), z _ k h _ (Grow.refl e) (.bl _) q⟩
end
end DL
set_option Elab.async false
set_option linter.all false
set_option maxRecDepth 100000
set_option maxHeartbeats 2000000
namespace DL
open PySem PySem.Spec PyProof.Rows L2
abbrev FT := Res → List D → Nat → (D → Nat → Prop) → (Addr → List Str → List D → Nat → Prop) → Prop
def XAt (h : Hp) (d : Option Addr) (ns : List Str) (ws : List V) : Prop := match ns with
 | [] => d = none
 | _ => ∃ dd, d = some dd ∧ h dd = some (.xd (ns.zip ws))
def XW (K : PySem.W.Frag) (R : Res) (k H : Hp) (E : XK) (C : Addr) (ns : List Str) (fs : List D) (b : Nat) : Prop :=
 ∀ dd ws k' h', Grow R.W k H k' h' → R.I b h' → XAt k' dd ns ws → RepL K k' ws fs → E (.ref C) dd h'
def SpG (K : PySem.W.Frag) (n : Nat) (f : FT) : Sp := fun vs H Q E => vs.length = n ∧ ∃ (R : Res) (k : Hp) (ds : List D) (b : Nat), RepL K k vs ds ∧ Same k H ∧ R.I b H ∧ (∀ a, R.W a → k a = none ∧ H a ≠ none) ∧
 f R ds b (fun d b' => ∀ v k' h', Grow R.W k H k' h' → R.I b' h' → Rep K k' v d → Q v h') (XW K R k H E)
def startD (N : List Str) (ds : List D) : List (Option D) := ds.map some ++ List.replicate (N.length - ds.length) none
theorem start_rep {K : PySem.W.Frag} {k : Hp} {N : List Str} {vs : List V} {ds : List D} (r : RepL K k vs ds) {i : Nat} {d : D} (h : (startD N ds)[i]? = some (some d)) : ∃ v, (L2.start N vs)[i]? = some (some v) ∧ Rep K k v d := by
 unfold startD at h
 by_cases hi : i < ds.length
 ·rw [List.getElem?_append_left (by simpa using hi), List.getElem?_map] at h
  cases e : ds[i]? with
  | none => rw [e] at h; cases h
  | some x =>
   rw [e] at h
   cases h
   obtain ⟨v, e2, r2⟩ := r.get e
   refine ⟨v, ?_, r2⟩
   unfold L2.start
   have hv : i < vs.length := by rw [r.length]; exact hi
   rw [List.getElem?_append_left (by simpa using hv), List.getElem?_map, e2]
   rfl
 ·rw [List.getElem?_append_right (by simpa using hi), List.getElem?_replicate] at h
  split at h <;> cases h
theorem start_len {N : List Str} {vs : List V} {ds : List D} (e : vs.length = ds.length) : (startD N ds).length = (L2.start N vs).length := by
 unfold startD L2.start
 simp [e]
section
variable {P : Program} {w : World} {K : PySem.W.Frag} {mg : Str → Option Value} {base : Heap}
theorem fnG {x qual : Str} {st : Stmt} {f : Addr} {fd : FuncData} {N ps : List Str} {k n : Nat} {F : FT} (Fn : Fun K x qual st f fd) (S : FnScope N ps (defScope st)) (hn : ps.length = n)
  (hbody : ∀ (cdv : Value) (A : Around) (outer : List Env) (s : Shared) (H : Hp) (E : XK), Room k (A.deeper (envOfC qual (defScope st) s.heap.objs.size f cdv)) →
   ∃ t, PSs (cxOf (L2.CX P w) P w K mg base N qual (defScope st) f cdv A outer s H E) (defBody st) t ∧
    ∀ (R : Res) (k0 : Hp) (ds : List D) (b : Nat) (q : D → Nat → Prop) (x : Addr → List Str → List D → Nat → Prop), F R ds b q x → ds.length = n →
     (∀ C ns fs b' dd ws k' h', x C ns fs b' → Grow R.W k0 H k' h' → R.I b' h' → XAt k' dd ns ws → RepL K k' ws fs → E (.ref C) dd h') →
     WS ⟨K, R, k0, H, true, fun _ => none⟩ t { δ := startD N ds, b := b } { nx := fun ς => q .non ς.b, rt := fun d ς => q d ς.b }) :
  FnOk P w K mg base (L2.CX P w) (k + 1) f fd ps (SpG K n F) := by
 refine Fn.okX S (fun vs H Q E h => by rw [h.1, hn]) fun cdv A outer s H vs Q E hr h => ?_
 obtain ⟨t, ht, hw⟩ := hbody cdv A outer s H E hr
 obtain ⟨hl, R, k0, ds, b, rl, e, hi, hW, hf⟩ := h
 refine ⟨t, ht, ?_⟩
 refine hw R k0 ds b _ _ hf (by rw [← rl.length, hl]) (fun C ns fs b' dd ws k' h' z g i1 i2 i3 => z dd ws k' h' g i1 i2 i3) (L2.start N vs) k0 H ⟨Grow.refl e, hi, hW, fun i d q => start_rep rl q, fun p hp => absurd hp (by simp), List.nodup_nil, start_len rl.length, fun _ _ z => by cases z⟩ _ ?_
 exact ⟨fun σ' k' h' ς' S' _ q => q .non k' h' S'.g S'.i .non, fun _ _ _ _ _ _ q => q.elim, fun _ _ _ _ _ _ q => q.elim, fun v σ' k' h' d ς' S' _ r q => q v k' h' S'.g S'.i r⟩
end
section
variable {c : Cn} {ς : Sta} {Φ : D → Sta → Prop} {Ψ : Psi}
theorem SR.after {σ : L2.St} {k h k' h' : Hp} {b' : Nat} (S : SR c ς σ k h) (g : Grow c.R.W k h k' h') (i : c.R.I b' h') (hf : c.fr = true) : SR c { ς with b := b' } σ k' h' := by
 refine ⟨S.g.trans g, i, S.w, fun j d q => ?_, fun p hp => ?_, S.nd, S.len, S.kb.trans g.kk⟩
 ·obtain ⟨v, e, r⟩ := S.s j d q
  exact ⟨v, e, r.mono g.kk⟩
 ·obtain ⟨a1, a2, a3⟩ := S.m p hp
  have a2' : c.h0 p.1 = none := by
   rcases a2 with z | ⟨z, _⟩
   ·exact z
   ·rw [hf] at z; cases z
  have nW : ¬ c.R.W p.1 := fun z => (S.w _ z).2 a2'
  refine ⟨g.dj _ a1 a3.there, a2, ?_⟩
  obtain ⟨o, mo⟩ := p
  cases mo with
  | lst ds => obtain ⟨vs, q, r⟩ := a3; exact ⟨vs, g.hh _ _ nW q, r.mono g.kk⟩
  | ins C dx ns ds => obtain ⟨fs, q, n, r⟩ := a3; exact ⟨fs, g.hh _ _ nW q, n, r.mono g.kk⟩
  | dct ks ds => obtain ⟨kvs, q, n, r⟩ := a3; exact ⟨kvs, g.hh _ _ nW q, n, r.mono g.kk⟩
  | gen R mo => obtain ⟨u, q, n, t, r⟩ := a3; exact ⟨u, g.hh _ _ nW q, n, t, mo _ _ _ _ g.kk r⟩
end
end DL
set_option Elab.async false
set_option linter.all false
set_option maxRecDepth 100000
set_option maxHeartbeats 2000000
namespace DL
open PySem PySem.Spec PyProof.Rows L2
structure Spc where
 pre : Res → List D → Nat → Prop
 post : Res → List D → Nat → D → Nat → Prop
 exc : Res → List D → Nat → Addr → List Str → List D → Nat → Prop := fun _ _ _ _ _ _ _ => False
def Spc.ft (s : Spc) : FT := fun R ds b q x => s.pre R ds b ∧ (∀ d b', s.post R ds b d b' → q d b') ∧ ∀ C ns fs b', s.exc R ds b C ns fs b' → x C ns fs b'
abbrev SpS (K : PySem.W.Frag) (n : Nat) (s : Spc) : Sp := SpG K n s.ft
inductive Out where
 | ret (d : D)
 | exc (C : Addr) (ns : List Str) (fs : List D)
def spcF (g : List D → Option Out) : Spc where
 pre := fun _ ds _ => ∃ o, g ds = some o
 post := fun _ ds b d b' => g ds = some (.ret d) ∧ b' = b
 exc := fun _ ds b C ns fs b' => g ds = some (.exc C ns fs) ∧ b' = b
section
variable {P : Program} {w : World} {K : PySem.W.Frag} {mg : Str → Option Value} {base : Heap}
theorem fnS {x qual : Str} {st : Stmt} {f : Addr} {fd : FuncData} {N ps : List Str} {k n : Nat} {s : Spc} (Fn : Fun K x qual st f fd) (S : FnScope N ps (defScope st)) (hn : ps.length = n)
  (hbody : ∀ (cdv : Value) (A : Around) (outer : List Env) (sh : Shared) (H : Hp) (E : XK), Room k (A.deeper (envOfC qual (defScope st) sh.heap.objs.size f cdv)) →
   ∃ t, PSs (cxOf (L2.CX P w) P w K mg base N qual (defScope st) f cdv A outer sh H E) (defBody st) t ∧
    ∀ (R : Res) (k0 : Hp) (ds : List D) (b : Nat), s.pre R ds b → ds.length = n →
     (∀ C ns fs b' dd ws k' h', s.exc R ds b C ns fs b' → Grow R.W k0 H k' h' → R.I b' h' → XAt k' dd ns ws → RepL K k' ws fs → E (.ref C) dd h') →
     WS ⟨K, R, k0, H, true, fun _ => none⟩ t { δ := startD N ds, b := b } { nx := fun ς => s.post R ds b .non ς.b, rt := fun d ς => s.post R ds b d ς.b }) :
  FnOk P w K mg base (L2.CX P w) (k + 1) f fd ps (SpS K n s) := by
 refine fnG Fn S hn fun cdv A outer sh H E hr => ?_
 obtain ⟨t, ht, hw⟩ := hbody cdv A outer sh H E hr
 refine ⟨t, ht, fun R k0 ds b q x hf hl hE => ?_⟩
 obtain ⟨h1, h2, h3⟩ := hf
 exact ws_mono (hw R k0 ds b h1 hl fun C ns fs b' dd ws k' h' z => hE C ns fs b' dd ws k' h' (h3 C ns fs b' z)) (fun ς z => h2 _ _ z) (fun d b z => h2 _ _ z) (fun _ z => z) fun _ z => z
end
section
variable {c : Cn} {ς : Sta} {Φ : D → Sta → Prop} {Ψ : Psi}
abbrev XT := Addr → List Str → List D → Sta → Prop
def XOk (c : Cn) (E : XK) (X : XT) : Prop := ∀ C ns fs dd ws σ k' h' ς', SR c ς' σ k' h' → XAt k' dd ns ws → RepL c.K k' ws fs → X C ns fs ς' → E (.ref C) dd h'
theorem xok0 {E : XK} : XOk c E fun _ _ _ _ => False := fun _ _ _ _ _ _ _ _ _ _ _ _ z => z.elim
theorem we_call {n : Nat} {s : Spc} {E : XK} {ta : TA} {X : XT} (hE : XOk c E X)
  (h : WL c ta ς fun ds ς1 => ds.length = n ∧ s.pre Res.none ds 0 ∧ (∀ d b, s.post Res.none ds 0 d b → Φ d ς1) ∧ ∀ C ns fs b, s.exc Res.none ds 0 C ns fs b → X C ns fs ς1) : WE c (tCall (SpS c.K n s) [] E ta) ς Φ := fun σ k hh S Q z =>
 h σ k hh S _ fun vs k1 h1 ds ς1 S1 e1 r1 ⟨l, p1, p2, p3⟩ => by
  rw [List.append_nil]
  refine ⟨by rw [r1.length, l], Res.none, k1, ds, 0, r1, S1.kh, trivial, fun a z => z.elim, p1, fun d b q v k' h' g _ r => ?_, fun C ns fs b q dd ws k' h' g _ e r => ?_⟩
  ·exact z v k' h' d ς1 (S1.grow g) (e1.trans g.kk) r (p2 d b q)
  ·exact hE C ns fs dd ws σ k' h' ς1 (S1.grow g) e r (p3 C ns fs b q)
def lookD (f : Str) : List Str → List D → Option D
 | n :: ns, d :: ds => if f = n then some d else lookD f ns ds
 | _, _ => none
theorem look_rep {K : PySem.W.Frag} {k : Hp} {f : Str} : ∀ {fs : List (Str × V)} {ns : List Str} {ds : List D} {d : D}, fs.map (·.1) = ns → RepL K k (fs.map (·.2)) ds → lookD f ns ds = some d → ∃ v, fs.lookup f = some v ∧ Rep K k v d
 | [], ns, ds, d, e, r, h => by
  subst e
  cases r
  cases h
 | (n, v) :: fs, ns, ds, d, e, r, h => by
  subst e
  cases r with
  | cons r1 r2 =>
   rename_i d1 ds1
   have h : (if f = n then some d1 else lookD f (fs.map (·.1)) ds1) = some d := h
   by_cases q : f = n
   ·rw [if_pos q] at h
    cases h
    subst q
    exact ⟨v, by simp [List.lookup], r1⟩
   ·rw [if_neg q] at h
    obtain ⟨v', e2, r3⟩ := look_rep rfl r2 h
    have qq : (f == n) = false := by simpa using q
    exact ⟨v', by simp [List.lookup, qq, e2], r3⟩
theorem we_fld {te : TE} {f : Str} (h : WE c te ς fun d ς1 => ∃ C ns ds d', d = .obj C ns ds ∧ Cls c.K C ∧ NoAttr c.K C f ∧ lookD f ns ds = some d' ∧ Φ d' ς1) : WE c (tFld c.K te f) ς Φ := fun σ k hh S Q z =>
 h σ k hh S _ fun v k1 h1 d ς1 S1 e1 r1 ⟨C, ns, ds, d', ed, hc, hn, hl, q⟩ => by
  subst ed
  cases r1 with
  | obj ek en er =>
   obtain ⟨v', e2, r2⟩ := look_rep en er hl
   exact ⟨_, _, _, _, v', rfl, S1.kh _ _ ek, hc, hn, e2, z v' k1 h1 d' ς1 S1 e1 r2 q⟩
end
structure SpcI where
 pre : List D → Prop
 post : List D → List Str → List D → Prop
 exc : List D → Addr → List Str → List D → Prop := fun _ _ _ _ => False
def initR (x : Addr) : Res := ⟨fun a => a = x, fun _ _ => True, fun _ _ _ _ h => h⟩
def SpI (K : PySem.W.Frag) (n : Nat) (C : Addr) (s : SpcI) : Sp := fun vs H Q E => vs.length = n ∧ ∃ (x dx : Addr) (us : List V) (k : Hp) (ds : List D), vs = .ref x :: us ∧ H x = some (.ins C dx []) ∧ k x = none ∧ RepL K k us ds ∧ Same k H ∧ s.pre ds ∧
 (∀ ns fs, s.post ds ns fs → ∀ k' h' ws, Grow (initR x).W k H k' h' → h' x = some (.ins C dx ws) → ws.map (·.1) = ns → RepL K k' (ws.map (·.2)) fs → Q .non h') ∧
 ∀ C' ns fs, s.exc ds C' ns fs → XW K (initR x) k H E C' ns fs 0
section
variable {P : Program} {w : World} {K : PySem.W.Frag} {mg : Str → Option Value} {base : Heap}
end
section
variable {c : Cn} {ς : Sta} {Φ : D → Sta → Prop} {Ψ : Psi}
theorem we_make {C : Addr} {n : Nat} {s : SpcI} {E : XK} {ta : TA} {X : XT} (hE : XOk c E X)
  (h : WL c ta ς fun ds ς1 => ds.length + 1 = n ∧ s.pre ds ∧ (∀ ns fs, s.post ds ns fs → Φ (.obj C ns fs) ς1) ∧ ∀ C' ns fs, s.exc ds C' ns fs → X C' ns fs ς1) : WE c (tMake C (SpI c.K n C s) [] E ta) ς Φ := fun σ k hh S Q z =>
 h σ k hh S _ fun vs k1 h1 ds ς1 S1 e1 r1 ⟨l, p1, p2, p3⟩ x dx nx ndx nex => by
  rw [List.append_nil]
  have kx : k1 x = none := S1.kh.free nx
  have s1 : Same k1 (upd (upd h1 dx (.own x)) x (.ins C dx [])) := S1.kh.trans ((same_new ndx).trans (same_new (by rw [upd_ne (fun e => nex e.symm)]; exact nx)))
  have back : ∀ {k' h' : Hp}, Grow (initR x).W k1 (upd (upd h1 dx (.own x)) x (.ins C dx [])) k' h' → Grow No k1 h1 k' h' := fun {k' h'} g => by
   refine ⟨g.kk, g.kh, fun a o _ q => ?_, fun a q => ?_, fun a q n => g.dj a q ?_, g.kt⟩
   ·have na : a ≠ x := ne_of_none q nx
    exact g.hh a o na (by rw [upd_ne na, upd_ne (ne_of_none q ndx)]; exact q)
   ·refine g.hd a ?_
    have na : a ≠ x := fun e => q (by rw [e]; exact nx)
    have nd : a ≠ dx := fun e => q (by rw [e]; exact ndx)
    rw [upd_ne na, upd_ne nd]
    exact q
   ·have na : a ≠ x := fun e => n (by rw [e]; exact nx)
    have nd : a ≠ dx := fun e => n (by rw [e]; exact ndx)
    rw [upd_ne na, upd_ne nd]
    exact n
  refine ⟨by rw [List.length_cons, r1.length, l], x, dx, vs, k1, ds, rfl, upd_same, kx, r1, s1, p1, fun ns fs hp k' h' ws g ex en er => ⟨rfl, ?_⟩, fun C' ns fs hx dd ws k' h' g _ e r => ?_⟩
  ·have g1 := back g
   have kx' : k' x = none := g.dj x kx (by rw [upd_same]; simp)
   have kk : Same k' (upd k' x (.ins C dx ws)) := same_new kx'
   have g2 : Grow No k1 h1 (upd k' x (.ins C dx ws)) h' := by
    refine ⟨g1.kk.trans kk, fun a o q => ?_, g1.hh, g1.hd, fun a q n => ?_, fun a ps q => ?_⟩
    ·by_cases ea : a = x
     ·rw [ea, upd_same] at q
      rw [ea, ex]
      exact q
     ·rw [upd_ne ea] at q
      exact g1.kh _ _ q
    ·have na : a ≠ x := fun e => n (by rw [e]; exact nx)
     rw [upd_ne na]
     exact g1.dj a q n
    ·by_cases ea : a = x
     ·rw [ea, upd_same] at q; cases q
     ·rw [upd_ne ea] at q; exact g1.kt a ps q
   exact z (.ref x) _ h' _ ς1 (S1.grow g2) (e1.trans g2.kk) (.obj upd_same en (er.mono kk)) (p2 ns fs hp)
  ·exact hE C' ns fs dd ws σ k' h' ς1 (S1.grow (back g)) e r (p3 C' ns fs hx)
theorem nd_ix {α : Type} : ∀ {l : List α}, l.Nodup → ∀ {i j : Nat} {x : α}, l[i]? = some x → l[j]? = some x → i = j
 | [], _, _, _, _, h, _ => by simp at h
 | y :: l, hn, 0, 0, _, _, _ => rfl
 | y :: l, hn, 0, j + 1, x, h, g => by
  have e : y = x := by simpa using h
  have m : x ∈ l := List.mem_of_getElem? (by simpa using g)
  exact absurd (e ▸ m) (List.nodup_cons.mp hn).1
 | y :: l, hn, i + 1, 0, x, h, g => by
  have e : y = x := by simpa using g
  have m : x ∈ l := List.mem_of_getElem? (by simpa using h)
  exact absurd (e ▸ m) (List.nodup_cons.mp hn).1
 | y :: l, hn, i + 1, j + 1, x, h, g => by
  rw [nd_ix (List.nodup_cons.mp hn).2 (i := i) (j := j) (x := x) (by simpa using h) (by simpa using g)]
theorem SR.at {σ : L2.St} {k h : Hp} {j : Nat} {o : Addr} {mo : MO} (S : SR c ς σ k h) (e : ς.m[j]? = some (o, mo)) : k o = none ∧ (c.h0 o = none ∨ (c.fr = false ∧ c.R.W o)) ∧ MoR c.K k h o mo := S.m (o, mo) (List.mem_of_getElem? e)
theorem SR.put {σ : L2.St} {k h : Hp} {j : Nat} {o : Addr} {mo mo' : MO} {ho : HO} (S : SR c ς σ k h) (e : ς.m[j]? = some (o, mo)) (hI : ∀ b h h', c.fr = false → c.R.I b h → c.R.I b h') (r : MoR c.K k (upd h o ho) o mo') :
  SR c { ς with m := ς.m.set j (o, mo') } σ k (upd h o ho) := by
 obtain ⟨a1, a2, a3⟩ := S.at e
 obtain ⟨hj, hje⟩ := List.getElem?_eq_some_iff.mp e
 have kh : Same k (upd h o ho) := fun a u q => by
  have ne : a ≠ o := fun z => by rw [z, a1] at q; cases q
  rw [upd_ne ne]
  exact S.kh _ _ q
 refine ⟨⟨S.g.kk, kh, fun a u na q => ?_, fun a q => ?_, S.g.dj, S.g.kt⟩, ?_, S.w, S.s, fun p hp => ?_, ?_, S.len, S.kb⟩
 ·have ne : a ≠ o := fun z => by
   rcases a2 with y | ⟨_, y⟩
   ·rw [z, y] at q; cases q
   ·exact na (by rw [z]; exact y)
  rw [upd_ne ne]
  exact S.g.hh a u na q
 ·by_cases ea : a = o
  ·rw [ea, upd_same]; simp
  ·rw [upd_ne ea]; exact S.g.hd a q
 ·rcases a2 with y | ⟨y, _⟩
  ·exact c.R.st _ _ _ (fun a u wa q => by
    have ne : a ≠ o := fun z => by
     rcases wa with wa | wa
     ·exact (S.w a wa).2 (by rw [z]; exact y)
     ·subst z
      cases mo with
      | lst ds => obtain ⟨vs, q2, r⟩ := a3; rw [q2] at q; cases q; exact wa
      | ins C dx ns ds => obtain ⟨fs, q2, r⟩ := a3; rw [q2] at q; cases q; exact wa
      | dct ks ds => obtain ⟨kvs, q2, r⟩ := a3; rw [q2] at q; cases q; exact wa
      | gen R mo => obtain ⟨u, q2, n, r⟩ := a3; rw [q2] at q; cases q; exact n wa
    rw [upd_ne ne]
    exact q) S.i
  ·exact hI _ _ _ y S.i
 ·have hp : p ∈ ς.m.set j (o, mo') := hp
  obtain ⟨i, hi, ei⟩ := List.mem_iff_getElem.mp hp
  rw [List.getElem_set] at ei
  by_cases eij : j = i
  ·rw [if_pos eij] at ei
   subst ei
   exact ⟨a1, a2, r⟩
  ·rw [if_neg eij] at ei
   have hi' : i < ς.m.length := by rw [List.length_set] at hi; exact hi
   have hpm : p ∈ ς.m := by rw [← ei]; exact List.getElem_mem _
   obtain ⟨b1, b2, b3⟩ := S.m p hpm
   have ne : p.1 ≠ o := fun z => eij (nd_ix S.nd (x := o) (by rw [List.getElem?_map, e]; rfl) (by rw [List.getElem?_map, List.getElem?_eq_getElem hi', ei]; simp [z]))
   refine ⟨b1, b2, ?_⟩
   obtain ⟨po, pm⟩ := p
   cases pm with
   | lst ds => obtain ⟨vs, q, r⟩ := b3; exact ⟨vs, by rw [upd_ne ne]; exact q, r⟩
   | ins C dx ns ds => obtain ⟨fs, q, n, r⟩ := b3; exact ⟨fs, by rw [upd_ne ne]; exact q, n, r⟩
   | dct ks ds => obtain ⟨kvs, q, n, r⟩ := b3; exact ⟨kvs, by rw [upd_ne ne]; exact q, n, r⟩
   | gen R mo => obtain ⟨u, q, n, t, r⟩ := b3; exact ⟨u, by rw [upd_ne ne]; exact q, n, t, r⟩
 ·have em : (ς.m.set j (o, mo')).map (·.1) = ς.m.map (·.1) := by
   rw [List.map_set]
   refine List.ext_getElem? fun i => ?_
   by_cases eij : j = i
   ·subst eij
    rw [List.getElem?_set_self (by rw [List.length_map]; exact hj), List.getElem?_map, e]
    rfl
   ·rw [List.getElem?_set_ne eij]
  show ((ς.m.set j (o, mo')).map (·.1)).Nodup
  rw [em]
  exact S.nd
end
end DL
set_option Elab.async false
set_option linter.all false
set_option maxRecDepth 100000
set_option maxHeartbeats 2000000
namespace DL
open PySem PySem.Spec PyProof.Rows L2
section
variable {c : Cn} {ς : Sta} {Φ : D → Sta → Prop} {Ψ : Psi}
theorem er_map {α β : Type} (f : α → β) : ∀ (l : List α) (j : Nat), (l.eraseIdx j).map f = (l.map f).eraseIdx j
 | [], _ => by simp
 | _ :: _, 0 => rfl
 | x :: l, j + 1 => by
  show f x :: (l.eraseIdx j).map f = f x :: (l.map f).eraseIdx j
  rw [er_map f l j]
theorem we_pop {j i : Nat} {o : Addr} {ds : List D} {d : D} {to te : TE} (hI : ∀ b h h', c.fr = false → c.R.I b h → c.R.I b h' := by first | exact (fun _ _ _ z => nomatch z) | exact (fun _ _ _ _ z => z))
  (h : WE c to ς fun x ς1 => x = .ref o ∧ (∃ ds, ς1.m[j]? = some (o, .lst ds)) ∧ WE c te ς1 fun e ς2 => e = .int (i : Int) ∧ i < 2 ^ 63 ∧ ς2.m[j]? = some (o, .lst ds) ∧ ds[i]? = some d ∧ Φ d { ς2 with m := ς2.m.set j (o, .lst (ds.eraseIdx i)) }) :
  WE c (tBM c.K "list" rPopAt to (tCons te tNil)) ς Φ := fun σ k hh S Q z =>
 h σ k hh S _ fun v k1 h1 x ς1 S1 e1 r1 ⟨ed, ⟨ds0, ej0⟩, q⟩ => by
  subst ed
  cases r1
  obtain ⟨_, _, vs0, hv0, _⟩ := S1.at ej0
  refine ⟨.inl ⟨rfl, vs0, SqL.of hv0⟩, q σ k1 h1 S1 _ fun y k2 h2 e ς2 S2 e2 r2 ⟨ee, l, ej, ed, q2⟩ => ?_⟩
  subst ee
  cases r2
  obtain ⟨a1, a2, vs, hv, rv⟩ := S2.at ej
  obtain ⟨u, hu, ru⟩ := rv.get ed
  have hi : i < vs.length := (List.getElem?_eq_some_iff.mp hu).1
  refine ⟨o, vs, (i : Int), i, u, rfl, rfl, hv, by omega, by omega, (ixN_seq (by unfold ixN; rw [if_pos (by omega), if_pos (by omega)]; simp)).1, hu, ?_⟩
  exact z u k2 _ d _ (S2.put (mo' := .lst (ds.eraseIdx i)) ej hI ⟨vs.eraseIdx i, upd_same, rv.eraseIdx i⟩) (e1.trans e2) ru q2
theorem wg_sub {j i : Nat} {o : Addr} {ds : List D} {d : D} {to ti : TE} {Φ : Sta → Prop} (hI : ∀ b h h', c.fr = false → c.R.I b h → c.R.I b h' := by first | exact (fun _ _ _ z => nomatch z) | exact (fun _ _ _ _ z => z))
  (h : WE c to ς fun x ς1 => x = .ref o ∧ WE c ti ς1 fun e ς2 => ∃ n, e = .int n ∧ ixN ds.length n = some i ∧ ς2.m[j]? = some (o, .lst ds) ∧ Φ { ς2 with m := ς2.m.set j (o, .lst (ds.set i d)) }) :
  WG c (gSub to ti rSetL) d ς Φ := fun σ k hh v S r Q z =>
 h σ k hh S _ fun x k1 h1 dx ς1 S1 e1 r1 ⟨ed, q⟩ => by
  subst ed
  cases r1
  refine q σ k1 h1 S1 _ fun y k2 h2 e ς2 S2 e2 r2 ⟨n, ee, ei, ej, q2⟩ => ?_
  subst ee
  cases r2
  obtain ⟨a1, a2, vs, hv, rv⟩ := S2.at ej
  refine ⟨o, vs, n, i, rfl, rfl, hv, by rw [rv.length]; exact ei, ?_⟩
  exact z σ k2 _ _ (S2.put (mo' := .lst (ds.set i d)) ej hI ⟨vs.set i v, upd_same, RepL.set (r.mono (e1.trans e2)) i rv⟩) (e1.trans e2) q2
theorem we_ixM {j : Nat} {o : Addr} {ds : List D} {d : D} {to ti : TE} (h : WE c to ς fun x ς1 => x = .ref o ∧ WE c ti ς1 fun e ς2 => ∃ n, e = .int n ∧ ς2.m[j]? = some (o, .lst ds) ∧ atI ds n = some d ∧ Φ d ς2) :
  WE c (tOp (rIxK c.K) to ti) ς Φ := fun σ k hh S Q z =>
 h σ k hh S _ fun x k1 h1 dx ς1 S1 e1 r1 ⟨ed, q⟩ => by
  subst ed
  cases r1
  refine q σ k1 h1 S1 _ fun y k2 h2 e ς2 S2 e2 r2 ⟨n, ee, ej, ea, q2⟩ => ?_
  subst ee
  cases r2
  obtain ⟨a1, a2, vs, hv, rv⟩ := S2.at ej
  obtain ⟨u, hu, ru⟩ := rv.atI ea
  exact .inl ⟨o, vs, n, u, rfl, rfl, SqL.of hv, hu, z u k2 h2 d ς2 S2 (e1.trans e2) ru q2⟩
theorem we_neM {j : Nat} {o : Addr} {ds : List D} {ta tb : TE} (h : WE c ta ς fun x ς1 => x = .ref o ∧ WE c tb ς1 fun e ς2 => ς2.m[j]? = some (o, .lst ds) ∧ SeqAt.shaped (D.lst ds).toPy = true ∧ SeqAt.shaped e.toPy = true ∧ Φ (.bl (!PyData.eqv (D.lst ds).toPy e.toPy)) ς2) :
  WE c (tOp (rNeK c.K) ta tb) ς Φ := fun σ k hh S Q z =>
 h σ k hh S _ fun x k1 h1 dx ς1 S1 e1 r1 ⟨ed, q⟩ => by
  subst ed
  cases r1
  refine q σ k1 h1 S1 _ fun y k2 h2 e ς2 S2 e2 r2 ⟨ej, s1, s2, q2⟩ => ?_
  obtain ⟨a1, a2, vs, hv, rv⟩ := S2.at ej
  have dl : Dp c.K h2 (.ref o) (D.lst ds).toPy := .lst (SqL.of hv) (DpAll.up S2.kh (rv.dp (SeqAt.canLay_of_shaped s1)))
  exact .inr ⟨_, _, dl, Dp.up S2.kh (r2.dp (SeqAt.canLay_of_shaped s2)), s1, s2, z _ k2 h2 _ ς2 S2 (e1.trans e2) (.bl _) q2⟩
theorem SR.freeze {σ : L2.St} {k h : Hp} {i j : Nat} {o : Addr} {ds : List D} (S : SR c ς σ k h) (e : ς.m[j]? = some (o, .lst ds)) (hi : ς.δ[i]? = some (some (.ref o))) (hf : c.fr = true) :
  ∃ k', SR c { ς with δ := ς.δ.set i (some (.lst ds)), m := ς.m.eraseIdx j } σ k' h ∧ Same k k' := by
 obtain ⟨a1, a2, vs, hv, rv⟩ := S.at e
 have a2 : c.h0 o = none := by
  rcases a2 with z | ⟨z, _⟩
  ·exact z
  ·rw [hf] at z; cases z
 have kk : Same k (upd k o (.lst vs)) := same_new a1
 obtain ⟨hj, hje⟩ := List.getElem?_eq_some_iff.mp e
 refine ⟨upd k o (.lst vs), ⟨⟨S.g.kk.trans kk, fun a u q => ?_, S.g.hh, S.g.hd, fun a q n => ?_, fun a ps q => ?_⟩, S.i, S.w, fun i' d q => ?_, fun p hp => ?_, ?_, ?_, S.kb.trans kk⟩, kk⟩
 ·by_cases ea : a = o
  ·rw [ea, upd_same] at q
   rw [ea, hv]
   exact q
  ·rw [upd_ne ea] at q
   exact S.kh _ _ q
 ·have ne : a ≠ o := fun z => n (by rw [z]; exact a2)
  rw [upd_ne ne]
  exact S.g.dj a q n
 ·by_cases e : a = o
  ·rw [e, upd_same] at q; cases q
  ·rw [upd_ne e] at q; exact S.g.kt a ps q
 ·have q : (ς.δ.set i (some (.lst ds)))[i']? = some (some d) := q
  by_cases eii : i = i'
  ·subst eii
   have hl : i < ς.δ.length := (List.getElem?_eq_some_iff.mp hi).1
   rw [List.getElem?_set_self hl] at q
   cases q
   obtain ⟨v, h1, h2⟩ := S.s i _ hi
   cases h2
   exact ⟨_, h1, .lst upd_same (rv.mono kk)⟩
  ·rw [List.getElem?_set_ne eii] at q
   obtain ⟨v, h1, h2⟩ := S.s i' d q
   exact ⟨v, h1, h2.mono kk⟩
 ·have hp : p ∈ ς.m.eraseIdx j := hp
  have hpm := List.mem_of_mem_eraseIdx hp
  obtain ⟨b1, b2, b3⟩ := S.m p hpm
  have ne : p.1 ≠ o := by
   intro z
   rw [List.mem_eraseIdx_iff_getElem?] at hp
   obtain ⟨i2, n2, e2⟩ := hp
   exact n2 (nd_ix S.nd (x := o) (by rw [List.getElem?_map, e2]; simp [z]) (by rw [List.getElem?_map, e]; rfl))
  exact ⟨by rw [upd_ne ne]; exact b1, b2, b3.step kk fun _ _ q => q⟩
 ·have : (ς.m.eraseIdx j).map (·.1) = (ς.m.map (·.1)).eraseIdx j := er_map _ _ _
  show ((ς.m.eraseIdx j).map (·.1)).Nodup
  rw [this]
  exact S.nd.sublist (List.eraseIdx_sublist _ _)
 ·show (ς.δ.set i _).length = _
  rw [List.length_set]
  exact S.len
theorem ws_freeze {i j : Nat} {o : Addr} {ds : List D} {t : TS} (hf : c.fr = true) (e : ς.m[j]? = some (o, .lst ds)) (hi : ς.δ[i]? = some (some (.ref o))) (h : WS c t { ς with δ := ς.δ.set i (some (.lst ds)), m := ς.m.eraseIdx j } Ψ) : WS c t ς Ψ := fun σ k hh S E z => by
 obtain ⟨k', S', e'⟩ := S.freeze e hi hf
 exact h σ k' hh S' E (z.later e')
def rSlK (K : PySem.W.Frag) : V → Option Int → Option Int → Hp → VK → Prop := fun x lo hi H Q => rSlL K x lo hi H Q ∨ rSlA K x lo hi H Q
theorem SlR.or {X : Cx} {r r' : V → Option Int → Option Int → Hp → VK → Prop} (h : SlR X r) (h' : SlR X r') : SlR X fun x lo hi H Q => r x lo hi H Q ∨ r' x lo hi H Q := by
 intro pins s σ H x v vl vu lo hi sl Q I rx hs pl pu q
 rcases q with q | q
 ·exact h pins s σ H x v vl vu lo hi sl Q I rx hs pl pu q
 ·exact h' pins s σ H x v vl vu lo hi sl Q I rx hs pl pu q
theorem sl_K {X : Cx} : SlR X (rSlK X.K) := SlR.or sl_list sl_tupA
theorem wi_list {te : TE} {Φ : List D → Sta → Prop} (h : WE c te ς fun d ς1 => ∃ l, d = .lst l ∧ Φ l ς1) : WI c (iList c.K te) ς Φ := fun σ k hh S R z =>
 h σ k hh S _ fun v k1 h1 d ς1 S1 e1 r1 ⟨l, ed, q⟩ => by
  subst ed
  cases r1 with
  | lst ek er =>
   rename_i a vs
   refine ⟨a, rfl, ⟨_, SqL.of (S1.kh _ _ ek)⟩, z _ k1 h1 l ς1 S1 e1 ⟨fun i h hi ⟨e, _⟩ => ?_, fun h ⟨e, _⟩ => ⟨vs, SqL.of (e _ _ ek), by rw [er.length]; exact Nat.le_refl _⟩, fun i h x h' d ed y kc e1 ⟨e2, _⟩ => ?_⟩ q⟩
   ·have hv : i < vs.length := by rw [er.length]; exact hi
    exact ⟨vs, vs[i], SqL.of (e _ _ ek), by simp [hv]⟩
   ·obtain ⟨rfl, y⟩ := y
    obtain ⟨u, hu, ru⟩ := er.get ed
    have := y vs (SqL.of (e2 _ _ (e1 _ _ ek)))
    rw [hu] at this
    cases this
    exact ⟨kc, Grow.refl e2, ru.mono e1⟩
theorem wi_tup {te : TE} {Φ : List D → Sta → Prop} (h : WE c te ς fun d ς1 => ∃ l, d = .tup l ∧ Φ l ς1) : WI c (iTup c.K te) ς Φ := fun σ k hh S R z =>
 h σ k hh S _ fun v k1 h1 d ς1 S1 e1 r1 ⟨l, ed, q⟩ => by
  subst ed
  cases r1 with
  | tup ek er =>
   rename_i a vs
   refine ⟨a, rfl, ⟨_, Same.sqt S1.kh ek⟩, z _ k1 h1 l ς1 S1 e1 ⟨fun i h hi ⟨e, _⟩ => ?_, fun h ⟨e, _⟩ => ⟨vs, Same.sqt e ek, by rw [er.length]; exact Nat.le_refl _⟩, fun i h x h' d ed y kc e1 ⟨e2, _⟩ => ?_⟩ q⟩
   ·have hv : i < vs.length := by rw [er.length]; exact hi
    exact ⟨vs, vs[i], Same.sqt e ek, by simp [hv]⟩
   ·obtain ⟨rfl, y⟩ := y
    obtain ⟨u, hu, ru⟩ := er.get ed
    have := y vs (Same.sqt e2 (Same.sqt e1 ek))
    rw [hu] at this
    cases this
    exact ⟨kc, Grow.refl e2, ru.mono e1⟩
def rngD (lo : Int) (n : Nat) : List D := (List.range n).map fun i : Nat => D.int (lo + (i : Int))
theorem rngD_len (lo : Int) (n : Nat) : (rngD lo n).length = n := by unfold rngD; rw [List.length_map, List.length_range]
theorem rngD_get {lo : Int} {n i : Nat} {d : D} (h : (rngD lo n)[i]? = some d) : d = .int (lo + (i : Int)) ∧ i < n := by
 unfold rngD at h
 rw [List.getElem?_map] at h
 by_cases hi : i < n
 ·rw [List.getElem?_range hi] at h
  cases h
  exact ⟨rfl, hi⟩
 ·rw [List.getElem?_eq_none (by rw [List.length_range]; omega)] at h
  cases h
theorem walk_rng {c : Cn} {k : Hp} (lo : Int) (n : Nat) : WalkD c (Itr lo n) k (rngD lo n) :=
 ⟨fun i h hi _ => by rw [rngD_len] at hi; exact hi, fun h _ => by rw [rngD_len]; exact Nat.le_refl _, fun i h x h' d ed y kc e1 ⟨e2, _⟩ => by
  obtain ⟨rfl, rfl⟩ := y
  obtain ⟨rfl, _⟩ := rngD_get ed
  exact ⟨kc, Grow.refl e2, .int _⟩⟩
theorem wi_rng1 {ta : TA} {Φ : List D → Sta → Prop} (h : WL c ta ς fun ds ς1 => ∃ j : Int, ds = [.int j] ∧ -(2 ^ 62) ≤ j ∧ j < 2 ^ 62 ∧ Φ (rngD 0 j.toNat) ς1) : WI c (iRng1 ta) ς Φ := fun σ k hh S R z =>
 h σ k hh S _ fun vs k1 h1 ds ς1 S1 e1 r1 ⟨j, ed, a, b, q⟩ => by
  subst ed
  cases r1 with
  | cons r1 r2 =>
   cases r1; cases r2
   exact ⟨j, rfl, a, b, z _ k1 h1 _ ς1 S1 e1 (walk_rng 0 _) q⟩
def enumD (l : List D) : List D := l.mapIdx fun i d => .tup [.int (i : Nat), d]
theorem enumD_get {l : List D} {i : Nat} {d : D} (h : (enumD l)[i]? = some d) : ∃ x, l[i]? = some x ∧ d = .tup [.int (i : Nat), x] := by
 unfold enumD at h
 rw [List.getElem?_mapIdx] at h
 cases e : l[i]? with
 | none => rw [e] at h; cases h
 | some x => rw [e] at h; cases h; exact ⟨x, rfl, rfl⟩
end
end DL
set_option Elab.async false
set_option linter.all false
set_option maxRecDepth 100000
set_option maxHeartbeats 2000000
namespace DL
open PySem PySem.Spec PyProof.Rows L2
structure CalX (P : Program) (w : World) (K : PySem.W.Frag) (mg : Str → Option Value) (base : Heap) (k : Nat) (x : Str) (sp : Sp) : Prop where
 ex : ∃ (f : Addr) (fd : FuncData) (ps : List Str), FnOk P w K mg base (L2.CX P w) k f fd ps sp ∧ mg x = some (.ref f) ∧ PySem.W.keepIn K (.ref f) = true ∧ Binds K fd ps []
structure MakX (P : Program) (w : World) (K : PySem.W.Frag) (mg : Str → Option Value) (base : Heap) (k : Nat) (x : Str) (C : Addr) (sp : Sp) : Prop where
 ex : ∃ (f : Addr) (fd : FuncData) (ps : List Str), Mk K C f ∧ FnOk P w K mg base (L2.CX P w) k f fd ps sp ∧ mg x = some (.ref C) ∧ Binds K fd ps []
structure MetX (P : Program) (w : World) (K : PySem.W.Frag) (mg : Str → Option Value) (base : Heap) (k : Nat) (C : Addr) (m : Str) (sp : Sp) : Prop where
 ex : ∃ (f : Addr) (fd : FuncData) (ps : List Str), Cls K C ∧ Meth K C m f ∧ FnOk P w K mg base (L2.CX P w) k f fd ps sp ∧ Binds K fd ps []
section
variable {X : Cx} {E : XK} {x m : Str} {C : Addr} {k j : Nat} {sp : Sp} {e o : Expr} {es : List Expr} {t : TA} {to : TE} {p apos pos : Pos}
theorem pe_cx (c : CalX X.prog X.w X.K X.mg X.base k x sp) (hr : Room j X.A) (hk : k ≤ j) (hg : Gl X x) (hx : Passes (L2.CX X.prog X.w) X E) (ha : PA X (e :: es) t)
  (hdb : (x == ("__debug__" : Str)) = false := by decide) (hs : starEach (e :: es) X.env = (false, eval e X.env) :: starEach es X.env := by rfl) (hpl : (backTo pos (starEach es X.env)).any (·.1) = false := by rfl) :
  PE X (.Call (.Name x p) (e :: es) [] pos) (tCall sp [] E t) := by
 obtain ⟨f, fd, ps, F, hm, hk2, hb⟩ := c.ex
 exact pe_call F (hr.mono hk) hg hm hk2 hb .nil hx ha hdb hs hpl
end
def StrmAt (a l : Addr) (b : Nat) (h : Hp) : Prop := ∃ (cells : List Int) (x n m : Int), h a = some (.lst [.ref l, .int x, .int n, .int m]) ∧ h l = some (.lst (cells.map V.int)) ∧ 0 ≤ n ∧ n ≤ b ∧ 0 ≤ m ∧ m < 2147483647
def strm (a l : Addr) : Res where
 W := fun z => z = a ∨ z = l
 I := fun b h => a ≠ l ∧ StrmAt a l b h
 st := fun b h h' k => by
  rintro ⟨n, cells, x, y, m, h1, h2, h3⟩
  exact ⟨n, cells, x, y, m, k _ _ (.inl (.inl rfl)) h1, k _ _ (.inl (.inr rfl)) h2, h3⟩
end DL
set_option Elab.async false
set_option linter.all false
set_option maxRecDepth 100000
set_option maxHeartbeats 2000000
namespace DL
open PySem PySem.Spec PyProof.Rows L2
def tyN : D → Option String
 | .non => some "NoneType"
 | .bl _ => some "bool"
 | .int _ => some "int"
 | .str _ => some "str"
 | .lst _ => some "list"
 | .tup _ => some "tuple"
 | .dct _ _ => some "dict"
 | .dic _ _ => some "dict"
 | .tpf _ => some "tuple"
 | _ => none
theorem Rep.tyX {K : PySem.W.Frag} {k h : Hp} {v : V} {d : D} {s : String} (e : Same k h) (r : Rep K k v d) (q : tyN d = some s) : TyX K h v (.type s) := by
 cases r with
 | non => cases q; exact .base .non
 | bl b => cases q; exact .base (.bl b)
 | int i => cases q; exact .base (.int i)
 | str x => cases q; exact .base (.str x)
 | lst ek _ => cases q; exact .base (.lst (e _ _ ek))
 | tup ek _ =>
  cases q
  rcases ek with (ek | ⟨o, ek⟩) | ⟨o, its, n, hk, hc, _⟩
  ·exact .base (.tup (e _ _ ek))
  ·exact .fTuple (e _ _ ek)
  ·exact .kTuple hk hc
 | dct ek _ _ => cases q; exact .base (.dK (e _ _ ek))
 | dic ek _ _ => cases q; exact .fDict (e _ _ ek)
 | tpf ek _ _ => cases q; exact .fTuple (e _ _ ek)
 | obj _ _ _ => cases q
 | ty _ => cases q
 | ref _ => cases q
 | exc _ _ _ => cases q
 | gh _ _ => cases q
def isB : String → String → Bool
 | "bool", "int" => true
 | a, b => a == b
abbrev Knd (a : String) : Prop := a = "NoneType" ∨ a = "bool" ∨ a = "int" ∨ a = "str" ∨ a = "list" ∨ a = "tuple" ∨ a = "dict"
theorem kitB_is : ∀ {a b : String}, Knd a → Knd b → kitB a b = some (isB a b) := by
 intro a b ha hb
 rcases ha with rfl | rfl | rfl | rfl | rfl | rfl | rfl <;> rcases hb with rfl | rfl | rfl | rfl | rfl | rfl | rfl <;> decide +kernel
theorem tyN_knd {d : D} {s : String} (h : tyN d = some s) : Knd s := by
 cases d <;> cases h <;> simp [Knd]
section
variable {c : Cn} {ς : Sta} {Φ : D → Sta → Prop} {K : PySem.W.Frag} {Φ' : D → Prop}
theorem rc_isi {d : D} {n s : String} (hs : tyN d = some s) (hn : Knd n) (q : Φ' (.bl (isB s n))) : RC K (rIsi K) [d, .ty n] Φ' := fun k h vs e r Q z => by
 cases r with
 | cons r1 r2 => cases r2 with
  | cons r2 r3 =>
   cases r2; cases r3
   exact ⟨_, _, _, _, _, rfl, .ty n, r1.tyX e hs, kit_ty (kitB_is (tyN_knd hs) hn), z _ k h _ (Grow.refl e) (.bl _) q⟩
theorem kitAny_tys {K : PySem.W.Frag} {s : String} (hs : Knd s) : ∀ {ns : List String}, (∀ n ∈ ns, Knd n) → PySem.W.kitAny K (.type s) (ns.map Value.type) = some (ns.any fun n => isB s n)
 | [], _ => rfl
 | n :: ns, h => by
  rw [List.map_cons, List.any_cons]
  refine kitAny_cons (kit_ty (kitB_is hs (h n List.mem_cons_self))) (fun e => ?_) fun e => by rw [e]; rfl
  rw [e, Bool.false_or]
  exact kitAny_tys hs fun m hm => h m (List.mem_cons_of_mem _ hm)
def tTys : List String → TA
 | [] => tNil
 | n :: ns => tCons (tC (.ty n)) (tTys ns)
theorem tTys_go {σ : L2.St} {h : Hp} {Q : List V → Hp → Prop} : ∀ {ns : List String}, Q (ns.map V.ty) h → tTys ns σ h Q
 | [], q => q
 | n :: ns, q => tTys_go (ns := ns) (Q := fun xs H2 => Q (.ty n :: xs) H2) q
theorem clsV_tys : ∀ {ns : List String}, Paired ClsV (ns.map V.ty) (ns.map Value.type)
 | [] => .nil
 | n :: ns => .cons (.ty n) clsV_tys
theorem we_isiT {ns : List String} {te : TE} (hn : ∀ n ∈ ns, Knd n) (hl : ns.length ≤ 100) (h : WE c te ς fun d ς1 => ∃ s, tyN d = some s ∧ Φ (.bl (ns.any fun n => isB s n)) ς1) :
  WE c (tCB (rIsiT c.K) (tCons te (tCons (tTup (tTys ns)) tNil))) ς Φ := fun σ k hh S Q z =>
 h σ k hh S _ fun v k1 h1 d ς1 S1 e1 r1 ⟨s, hs, q⟩ => by
  refine tTys_go (h := h1) ⟨by rw [List.length_map, sizeLine_eq]; omega, fun p n => ?_⟩
  have g : Grow No k1 h1 k1 (upd h1 p (.tup (ns.map V.ty))) := Grow.newU S1.kh n
  refine ⟨v, p, _, _, _, _, rfl, upd_same, clsV_tys, r1.tyX (g.kh) hs, kitAny_tys (tyN_knd hs) hn, z _ k1 _ _ ς1 (S1.grow g) e1 (.bl _) q⟩
end
end DL
set_option Elab.async false
set_option linter.all false
set_option maxRecDepth 100000
set_option maxHeartbeats 2000000
namespace DL
open PySem PySem.Spec PyProof.Rows L2
def iSeq (K : PySem.W.Frag) (te : TE) : TI := fun σ H R => iList K te σ H R ∨ iTup K te σ H R
theorem pi_seq {X : Cx} {tg l : Expr} {te : TE} (h : PE X l te) : PI X tg l (iSeq X.K te) := ⟨fun pins s σ H R I q => by
 rcases q with q | q
 ·exact (pi_list h).run pins s σ H R I q
 ·exact (pi_tup h).run pins s σ H R I q⟩
section
variable {c : Cn} {ς : Sta} {Φ : List D → Sta → Prop} {Φe : D → Sta → Prop} {Ψ : Psi}
theorem wi_seqL {te : TE} (h : WE c te ς fun d ς1 => ∃ l, d = .lst l ∧ Φ l ς1) : WI c (iSeq c.K te) ς Φ := fun σ k hh S R z => .inl (wi_list h σ k hh S R z)
theorem wi_seqT {te : TE} (h : WE c te ς fun d ς1 => ∃ l, d = .tup l ∧ Φ l ς1) : WI c (iSeq c.K te) ς Φ := fun σ k hh S R z => .inr (wi_tup h σ k hh S R z)
theorem we_chain {r r' : R2} {ta tb tc : TE} (h : WE c ta ς fun d1 ς1 => WE c tb ς1 fun d2 ς2 => RD c.K r d1 d2 fun x => ∃ b, x = .bl b ∧ (b = false → Φe (.bl false) ς2) ∧ (b = true → WE c tc ς2 fun d3 ς3 => RD c.K r' d2 d3 fun y => Φe y ς3)) :
  WE c (tChain r r' ta tb tc) ς Φe := fun σ k hh S Q z =>
 h σ k hh S _ fun v1 k1 h1 d1 ς1 S1 e1 r1 q1 => q1 σ k1 h1 S1 _ fun v2 k2 h2 d2 ς2 S2 e2 r2 q2 => q2 k2 h2 v1 v2 S2.kh (r1.mono e2) r2 _ fun v k3 h3 d g rr ⟨b, eb, qf, qt⟩ => by
  subst eb
  cases rr
  have S3 := S2.grow g
  refine ⟨b, rfl, ?_⟩
  cases b with
  | false => exact iteF (z _ k3 h3 _ ς2 S3 ((e1.trans e2).trans g.kk) (.bl _) (qf rfl))
  | true => exact iteT (qt rfl σ k3 h3 S3 _ fun v4 k4 h4 d4 ς4 S4 e4 r4 q4 => q4 k4 h4 v2 v4 S4.kh (r2.mono (g.kk.trans e4)) r4 Q fun v5 k5 h5 d5 g5 r5 q5 => z v5 k5 h5 d5 ς4 (S4.grow g5) ((((e1.trans e2).trans g.kk).trans e4).trans g5.kk) r5 q5)
theorem pe_tyn {X : Cx} {x : Str} {n : String} {pos : Pos} (hg : Gl X x) (hm : X.mg x = none) (hv : bootBuiltins x = some (.type n)) (hn : x ≠ "__name__" := by decide) (hd : (x == ("__debug__" : Str)) = false := by decide) : PE X (.Name x pos) (tC (.ty n)) :=
 pe_bltn hg hm hv rfl hn hd
end
end DL
set_option Elab.async false
set_option linter.all false
set_option maxRecDepth 100000
set_option maxHeartbeats 2000000
namespace DL
open PySem PySem.Spec PyProof.Rows L2
theorem brT {p q : Prop} (h1 : p) : (true = true → p) ∧ (true = false → q) := ⟨fun _ => h1, fun z => (nomatch z)⟩
theorem brF {p q : Prop} (h1 : q) : (false = true → p) ∧ (false = false → q) := ⟨fun z => (nomatch z), fun _ => h1⟩
theorem brT' {p q : Prop} (h1 : p) : (true = false → q) ∧ (true = true → p) := ⟨fun z => (nomatch z), fun _ => h1⟩
theorem brF' {p q : Prop} (h1 : q) : (false = false → q) ∧ (false = true → p) := ⟨fun _ => h1, fun z => (nomatch z)⟩
theorem brD {p q c : Prop} [Decidable c] (h1 : c → p) (h2 : ¬ c → q) : (decide c = true → p) ∧ (decide c = false → q) := ⟨fun z => h1 (of_decide_eq_true z), fun z => h2 (of_decide_eq_false z)⟩
local macro_rules | `(tactic| walk_at "s1") => `(tactic| with_reducible first
 | refine ws_seq ?_ | refine ws_next ?_ | refine ws_ret ?_ | refine ws_retN ?_ | refine ws_if ?_ | refine ws_asg ?_ | refine ws_drop ?_ | refine ws_par ?_ | refine ws_break ?_ | refine ws_cont ?_
 | refine we_var rfl ?_ | refine we_int ?_ | refine we_non ?_ | refine we_bl ?_ | refine we_str ?_ | refine we_ty ?_ | refine we_op ?_ | refine we_un ?_
 | refine we_and ?_ | refine we_or ?_ | refine we_not ?_ | refine we_if ?_ | refine we_chain ?_ | refine we_cb ?_ | refine we_tup ?_ | refine we_lst ?_
 | refine wl_cons ?_ | refine wl_nil ?_ | refine wt_B ?_ | refine wt_test ?_ | refine wt_and ?_ | refine wt_or ?_ | refine wt_not ?_ | refine wt_yes ?_
 | refine wg_name (by decide) ?_ | refine wg_tup rfl ?_ | refine wgs_cons ?_ | refine wgs_nil ?_
 | refine rd_add_int ?_ | refine rd_sub ?_ | refine rd_lt ?_ | refine rd_le ?_ | refine rd_gt ?_ | refine rd_ge ?_ | refine rd_eq_int ?_ | refine rd_ne_int ?_ | refine rd_eq_str ?_ | refine rd_ne_str ?_ | refine rd_eq_bl ?_ | refine rd_ne_bl ?_ | refine rd_is ?_ | refine rd_isnot ?_ | refine ru_neg ?_
 | refine rc_int ?_ | refine rc_abs ?_
 | refine brT ?_ | refine brF ?_ | refine brT' ?_ | refine brF' ?_
 | refine ⟨_, rfl, ?_⟩)
end DL
set_option Elab.async false
set_option linter.all false
set_option maxRecDepth 100000
set_option maxHeartbeats 4000000
namespace DX
open PySem PySem.W PySem.Calls PyProof.Rows PySem.HandSPX
inductive Asg : List Stmt → List Str → Prop
 | nil : Asg [] []
 | cons {q1 q2 q3 q4 : Pos} {f : Str} {sts : List Stmt} {fs : List Str} (r : Asg sts fs) : Asg (.Assign [.Attribute (.Name "self" q1) f q2] (.Name f q3) q4 :: sts) (f :: fs)
end DX
namespace DX
open PySem PySem.W PySem.Calls PyProof.Rows PySem.HandSPX
structure Shape (params : Arguments) (body : List Stmt) (scope : Scope) (fs : List Str) : Prop where
 body : ∃ (p0 p1 p2 p3 p4 p5 : Pos) (m : Str) (j : Nat) (rest : List Stmt), body = .Expr (.Call (.Attribute (.Call (.Name "super" p0) [] [] p1) "__init__" p2) [.Constant (.str m) j p5] [] p3) p4 :: rest ∧ Asg rest fs ∧ (p2.endLine == p3.line) = true
 kind : scope.kind = .function
 co : scope.isCoroutine = false
 gen : scope.isGenerator = false
 cell : ∀ x ∈ scope.names, x.2 ≠ .cell
 ks : scope.names.lookup ("super" : Str) = some .globalImplicit
 kc : scope.names.lookup ("__class__" : Str) = some .free
 ka : scope.names.lookup ("self" : Str) = some .local
 kf : ∀ f ∈ fs, scope.names.lookup f = some .local ∧ (f == ("__debug__" : Str)) = false
 arg : ∃ ar : Arg, (params.posonlyargs ++ params.args).head? = some ar ∧ ar.arg = ("self" : Str)
 nd : (("self" : Str) :: fs).Nodup
structure Txt (P : Program) (K : Frag) (mg : Str → Option Value) (x : Str) (C fI : Addr) (fs : List Str) : Prop where
 gC : mg x = some (.ref C)
 cls : ∃ nm q N bs bm sn sub ab col dd k0 k1 k2 k3 k5, K.lookup C = some (excClassObj nm q C N bs bm true sn sub ab col dd k0 k1 k2 k3 k5 "ValueError.__new__") ∧ refsVE bm = true
 sa : findIn K (.ref C) "__setattr__" = some (some (.builtin "object.__setattr__"))
 xf : L2.XfC K C
 noN : ∀ f ∈ fs, findIn K (.ref C) f = some none
 iC : findIn K (.ref C) "__init__" = some (some (.ref fI))
 tC : typeIn K (.ref fI) = some (.type "function")
 kC : keepIn K (.ref C) = true
 tyC : typeIn K (.ref C) = some (.type "type")
 veC : subIn K (.ref C) (.type "ValueError") = some true
 te : exmOne K (.ref C) (.ref C) = some true
 sup : ks_superIn K C C "__init__" = some (some (.builtin "ValueError.__init__"))
 hsub : mroIn K C (.ref C) = some true
 hsuper : nsIn K mainGlobals "super" = some none
 any : nsIn K cStatics "thirdparty.any" = some none
 top : (P.main.scope.names.lookup ("super" : Str)).isSome = false
 fn : ∃ (oc ccl cl doc pm ct : Value) (od an cdd cld : Option Addr) (osl ccs csl : Array (Option Value)) (cda cc : Addr) (qual : Str) (params : Arguments) (body : List Stmt) (scope : Scope) (vs : Array Value) (file : Str) (tf : Tok),
  K.lookup fI = some ⟨oc, od, .func (ksFn "__init__" qual params body scope .none .none doc pm an (.ref cda) ct cc), osl⟩ ∧ codeIn K (.ref cda) qual = true ∧ Shape params body scope fs ∧
  (∀ (s : Shared) (us : List Value), us.length = fs.length + 1 → BindsTo s (ksFn "__init__" qual params body scope .none .none doc pm an (.ref cda) ct cc) ⟨us, []⟩ ((("self" : Str) :: fs).zip us)) ∧
  K.lookup cda = some ⟨ccl, cdd, .fields vs, ccs⟩ ∧ vs[2]? = some (.str file tf) ∧ ((P.main.file : Str) == file) = true ∧ K.lookup cc = some ⟨cl, cld, .cell (some (.ref C)), csl⟩
def mapOf : List (Str × Value) → Str → Option Value
 | [] => fun _ => none
 | (f, v) :: r => fun y => if y = f then some v else mapOf r y
theorem mapOf_within : ∀ r : List (Str × Value), Within (mapOf r) (r.map (·.1))
 | [], _, h => absurd rfl h
 | (f, v) :: r, y, h => by
  by_cases e : y = f
  ·subst e; exact List.mem_cons_self
  ·exact List.mem_cons_of_mem _ (mapOf_within r y (by unfold mapOf at h; rw [if_neg e] at h; exact h))
structure At (h₀ h : Heap) (x C L : Addr) (r : List (Str × Value)) (od : Option Addr) : Prop where
 keep : ∀ b o, b ≠ x → h₀.get? b = some o → h.get? b = some o
 obj : ∃ t1 : Addr, h.get? x = some { cls := .ref C, dict := od, data := .fields #[.ref t1, .none, .none, .none, .bool false, .none] }
 dict : match od with
  | none => r = []
  | some dx => h₀.objs.size ≤ dx ∧ L < dx ∧ dx ≠ x ∧ h.Ns1 dx (mapOf r) ∧ r ≠ []
section
variable {prog : Program} {w : World} {A : Around} {E : Value → Shared → Prop} {K : Frag} {mg : Str → Option Value} {C fI x L : Addr} {h₀ : Heap} {m : Str → Option Value} {env : Env}
theorem asg_run {P : Flow → Shared → Prop} {g : Array GenState} {d : Drawn} {os : OsState} {cd : ClassData} (hcl : clsIn K C = some cd) (hm : refsVE cd.mro = true) (hh : cd.hasDict = true) (sa : findIn K (.ref C) "__setattr__" = some (some (.builtin "object.__setattr__")))
  (hk : env.scope.kind = .function) (hL : env.locals = L) (hL0 : h₀.objs.size ≤ L) (hxL : L ≠ x) (hself : m "self" = some (.ref x)) (hks : env.kindOf "self" = some .local) (hnx : ∀ o, K.lookup x ≠ some o) : ∀ {rest : List Stmt} {fs : List Str}, Asg rest fs →
  ∀ (h : Heap) (tk : Nat) (r : List (Str × Value)) (od : Option Addr), (∀ f ∈ fs, findIn K (.ref C) f = some none ∧ env.kindOf f = some .local ∧ (f == ("__debug__" : Str)) = false ∧ ∃ v, m f = some v) →
   K.In h₀ → h.Ns L m → At h₀ h x C L r od → r.length + fs.length ≤ 900 → (∀ h' tk' od', At h₀ h' x C L ((fs.map fun f => (f, (m f).getD .none)).reverse ++ r) od' → P .next ⟨h', g, d, tk', os⟩) →
   wpAny (model prog w) A (execs rest env) P E ⟨h, g, d, tk, os⟩ := by
 intro rest fs ha
 induction ha with
 | nil => intro h tk r od _ _ _ a _ q; exact wpAny_execs_nil (q h tk od a)
 | @cons q1 q2 q3 q4 f sts fs hr ih =>
  intro h tk r od hf X hn a hl q
  obtain ⟨f1, f2, f3, v, f4⟩ := hf f List.mem_cons_self
  have Xh : K.In h := fun b o e => a.keep b o (fun z => hnx o (by rw [← z]; exact e)) (X b o e)
  refine wpAny_execs_cons (plainObj_wpAny_Assign_Attribute ?_ (by rfl))
  refine wpAny_Name (wpAny_loadName_local hk f2 (by rw [hL]; exact hn) f4 ?_) f3
  refine wpAny_Name (wpAny_loadName_local hk hks (by rw [hL]; exact hn) hself ?_) (by decide)
  obtain ⟨t1, ho⟩ := a.obj
  have tail : ∀ h' tk' od', At h₀ h' x C L ((f, v) :: r) od' → h'.Ns L m → wpAny (model prog w) A (execs sts env) P E ⟨h', g, d, tk', os⟩ := fun h' tk' od' a' hn' => by
   refine ih h' tk' ((f, v) :: r) od' (fun f' hf' => hf f' (List.mem_cons_of_mem _ hf')) X hn' a' (by simp only [List.length_cons] at hl ⊢; omega) fun h2 tk2 od2 a2 => q h2 tk2 od2 ?_
   rw [List.map_cons, List.reverse_cons, List.append_assoc, f4]
   exact a2
  cases od with
  | none =>
   have er : r = [] := a.dict
   subst er
   refine set_plain Xh (ox := { cls := .ref C, dict := none, data := .fields #[.ref t1, .none, .none, .none, .bool false, .none] }) (od := none) ⟨ho, rfl, rfl, trivial⟩ sa ?_
   refine exc_osa Xh ho hcl hm hh f1 (fun h' tk' dx k dn dne hx hns => ?_)
   refine tail h' _ (some dx) ⟨fun b o hb e => k b o hb (a.keep b o hb e), ⟨t1, hx⟩, ?_⟩ ?_
   ·refine ⟨?_, Nat.lt_of_lt_of_le hn.lt dn, dne, ?_, by simp⟩
    ·exact Nat.le_trans hL0 (Nat.le_trans (Nat.le_of_lt hn.lt) dn)
    ·have e : mapOf [(f, v)] = fun y => if y = f then some v else none := by funext y; rfl
     rw [e]; exact hns
   ·obtain ⟨o, es, ep, e1, e2⟩ := hn
    exact ⟨o, es, ep, k _ _ hxL e1, e2⟩
  | some dx =>
   obtain ⟨d1, d2, d3, d4, d5⟩ := a.dict
   obtain ⟨oD, _, _, hoD, _, _⟩ := d4.count (mapOf_within r)
   refine set_plain Xh (ox := { cls := .ref C, dict := some dx, data := .fields #[.ref t1, .none, .none, .none, .bool false, .none] }) (od := some oD) ⟨ho, rfl, rfl, hoD⟩ sa ?_
   refine PySem.OEX.osa_old Xh ho d4 (mapOf_within r) (by rw [List.length_map]; omega) hcl hm hh f1 (fun h' tk' k hns => ?_)
   refine tail h' _ (some dx) ⟨fun b o hb e => k b o ?_ (a.keep b o hb e), ⟨t1, k _ _ d3.symm ho⟩, d1, d2, d3, ?_, by simp⟩ ?_
   ·exact Nat.ne_of_lt (Nat.lt_of_lt_of_le (Heap.lt_size e) d1)
   ·have e : mapOf ((f, v) :: r) = fun y => if y = f then some v else mapOf r y := by funext y; rfl
    rw [e]; exact hns
   ·obtain ⟨o, es, ep, e1, e2⟩ := hn
    exact ⟨o, es, ep, k _ _ (Nat.ne_of_lt d2) e1, e2⟩
end
end DX
set_option Elab.async false
set_option linter.all false
set_option maxRecDepth 100000
set_option maxHeartbeats 4000000
namespace DX
open PySem PySem.W PySem.Calls PyProof.Rows PySem.HandSPX
section
variable {prog : Program} {w : World} {A : Around} {E : Value → Shared → Prop} {R : Result → Shared → Prop} {K : Frag} {mg mb : Str → Option Value} {x₀ : Str} {C fI x t0 : Addr} {fs : List Str}
theorem lookup_rev_zip : ∀ {ns : List Str} {vs : List Value} {n : Str} {v : Value}, ns.Nodup → (n, v) ∈ ns.zip vs → (ns.zip vs).reverse.lookup n = some v := fun {ns vs n v} nd h => by
 have key : ∀ {l : List (Str × Value)}, (l.map (·.1)).Nodup → (n, v) ∈ l → l.lookup n = some v := by
  intro l
  induction l with
  | nil => intro _ h; simp at h
  | cons p l ih =>
   intro nd h
   obtain ⟨n', v'⟩ := p
   rw [List.map_cons, List.nodup_cons] at nd
   rcases List.mem_cons.mp h with e | h
   ·cases e
    simp [List.lookup]
   ·have ne : n ≠ n' := fun e => nd.1 (by rw [← e]; exact List.mem_map_of_mem (f := (·.1)) h)
    have q : (n == n') = false := by simpa using ne
    simp only [List.lookup, q]
    exact ih nd.2 h
 refine key ?_ (List.mem_reverse.mpr h)
 rw [List.map_reverse]
 have e : (ns.zip vs).map (·.1) = ns.take vs.length := by
  clear h key
  induction ns generalizing vs with
  | nil => simp
  | cons a ns ih => cases vs with
   | nil => simp
   | cons b vs => simp [ih (List.nodup_cons.mp nd).2]
 rw [e]
 exact (List.reverse_perm _).nodup_iff.mpr (nd.sublist (List.take_sublist _ _))
theorem sup_init {h : Heap} {g : Array GenState} {d : Drawn} {tk : Nat} {os : OsState} {vs : List Value} (T : Txt prog K mg x₀ C fI fs) (X : K.In h) (hlim : h.NoLimit) (hng : h.Ns mainGlobals mg) (hnb : h.Ns builtinsNs mb) (hbb : ∀ y : Str, y ≠ "__name__" → mb y = bootBuiltins y)
  (hx : h.get? x = some (excO C t0)) (hnx : ∀ o, K.lookup x ≠ some o) (hroom : A.depth < recursionLimit) (hv : vs.length = fs.length) (hfew : fs.length ≤ 800)
  (hq : ∀ h' tk' od', At h h' x C h.objs.size ((fs.zip vs).reverse) od' → R (.ok (.ret .none)) ⟨h', g, d, tk', os⟩) :
  codeAny (model prog w) A (.call (.ref fI) ⟨.ref x :: vs, []⟩) R ⟨h, g, d, tk, os⟩ := by
 obtain ⟨oc, ccl, cl, doc, pm, ct, od, an, cdd, cld, osl, ccs, csl, cda, cc, qual, params, body, scope, vv, file, tf, hf, hcd, S, hb, hcode, hvs, hfile, hcell⟩ := T.fn
 obtain ⟨nm, q, N, bs, bm, sn, sub, ab, col, dd, k0, k1, k2, k3, k5, hC, hbm⟩ := T.cls
 have hcl : clsIn K C = some { name := nm, bases := bs, mro := .ref C :: bm, ns := N, qualname := q, hasDict := true, slotNames := sn, subclasses := sub, abstract := ab, collection := col, hasDel := false } := by unfold clsIn; rw [hC] <;> rfl
 obtain ⟨ar, har, ear⟩ := S.arg
 have hlen : ((("self" : Str) :: fs).zip (Value.ref x :: vs)).length = fs.length + 1 := by simp [hv]
 have inx : ∀ f ∈ fs, ∃ v, (f, v) ∈ (("self" : Str) :: fs).zip (Value.ref x :: vs) := fun f hf => by
  obtain ⟨i, hi, e⟩ := List.mem_iff_getElem.mp hf
  refine ⟨vs[i], List.mem_iff_getElem.mpr ⟨i + 1, by simp [hv]; omega, ?_⟩⟩
  simp [e]
 refine ks_codeAny_call_defAt (fd := ksFn "__init__" qual params body scope .none .none doc pm an (.ref cda) ct cc) (body := body) (binds := (("self" : Str) :: fs).zip (.ref x :: vs)) hroom (X _ _ hf) rfl hlim (codeRec_of X hcd) rfl
  (hb _ _ (by simp [hv])) S.cell (fun y hy => ?_) (fun h₁ hns hk₁ => ?_) S.co S.gen S.kind
 ·have z := (List.of_mem_zip hy).1
  rcases List.mem_cons.mp z with e | e
  ·rw [e]; exact S.ka
  ·exact (S.kf _ e).1
 have X₁ : K.In h₁ := fun b o e => hk₁ b o (X b o e)
 have hx₁ := hk₁ _ _ hx
 have hxL : h.objs.size ≠ x := Nat.ne_of_gt (Heap.lt_size hx)
 have hself : ((("self" : Str) :: fs).zip (Value.ref x :: vs)).reverse.lookup ("self" : Str) = some (Value.ref x) := lookup_rev_zip S.nd (by simp)
 obtain ⟨p0, p1, p2, p3, p4, p5, mm, jj, rest, rfl, hasg, hline⟩ := S.body
 show _root_.PySem.wpAt (model prog w) _ (.func _ (ksEnv qual scope h.objs.size fI (.ref cda) cc)) (execs _ (ksEnv qual scope h.objs.size fI (.ref cda) cc)) _ _ _
 have he : ∀ env : Env, eval (.Call (.Attribute (.Call (.Name "super" p0) [] [] p1) "__init__" p2) [.Constant (.str mm) jj p5] [] p3) env = (do
   let ov ← attributeBase (.Call (.Name "super" p0) [] [] p1) "__init__" env (eval (.Call (.Name "super" p0) [] [] p1) env)
   standAt p2.atName
   let (f, first) ← holding [ov] (getMethod ov "__init__" (do return (← importBound (.Call (.Name "super" p0) [] [] p1) env).getD true))
   callWith p3 f first (backTo p3 (starEach [Expr.Constant (.str mm) jj p5] env)) []) := fun env => by
  have hpos : ∀ o : Expr, methodCallPos true o env p2 p3 = pure p3 := fun o => by unfold methodCallPos; simp [hline]
  show (do
   let ov ← attributeBase (.Call (.Name "super" p0) [] [] p1) "__init__" env (eval (.Call (.Name "super" p0) [] [] p1) env)
   standAt p2.atName
   methodCall (.Call (.Name "super" p0) [] [] p1) "__init__" p2 p3 env ov 1 (backTo p3 (starEach [Expr.Constant (.str mm) jj p5] env)) []) = _
  refine bind_congr fun ov => bind_congr fun _ => ?_
  unfold methodCall
  refine bind_congr fun z => ?_
  obtain ⟨f, first⟩ := z
  show (do
   let callPos ← methodCallPos true _ env p2 p3
   callWith callPos f first _ _) = _
  rw [hpos]
  rfl
 refine ks_wpAt_execs_cons (ks_wpAt_Expr_any (ks_wpAt_MethodCall ?_ (he _)) (by unfold interactive; simp only [ksEnv]; rw [S.kind]; rfl) (by first | rfl | (unfold swapsWith; rfl)))
 have Cx : ∃ o, h₁.get? C = some o ∧ o.data = .cls { name := nm, bases := bs, mro := .ref C :: bm, ns := N, qualname := q, hasDict := true, slotNames := sn, subclasses := sub, abstract := ab, collection := col, hasDel := false } := ⟨_, X₁ _ _ hC, rfl⟩
 obtain ⟨oD, hD1, hD2⟩ := Cx
 have nsg : h₁.Ns mainGlobals mg := by
  obtain ⟨o, es, ep, e1, e2⟩ := hng
  exact ⟨o, es, ep, hk₁ _ _ e1, e2⟩
 have nsb : h₁.Ns builtinsNs mb := by
  obtain ⟨o, es, ep, e1, e2⟩ := hnb
  exact ⟨o, es, ep, hk₁ _ _ e1, e2⟩
 refine ks_wpAt_super_base (env := ksEnv qual scope h.objs.size fI (.ref cda) cc) S.ks S.kc (by decide) rfl (X₁ _ _ hf) rfl har rfl (X₁ _ _ hcode) rfl hvs hfile T.top ?_
 refine ks_loadName_global S.kind S.ks (loadGlobal_builtin (env := ksEnv qual scope h.objs.size fI (.ref cda) cc) nsg (mg_none_of X hng T.hsuper) nsb ((hbb _ (by decide +kernel)).trans (by first | boot_by_name | rfl | kernel_rfl)) ⟨rfl, ?_⟩)
 refine wpAny_loadName_free S.kind S.kc rfl ⟨_, X₁ _ _ hcell, rfl⟩ ?_
 rw [ear]
 refine wpAny_loadName_local S.kind S.ka hns hself ?_
 refine ks_wpAny_isType_cls hD1 hD2 ⟨rfl, ?_⟩
 refine ks_wpAny_call_super hD1 hD2 hx₁ rfl (fun c e => by cases e) (looks_mroIn X₁ T.hsub) (fun h₂ hso hk₂ => ?_)
 have X₂ : K.In h₂ := fun b o e => hk₂ b o (X₁ b o e)
 have hx₂ := hk₂ _ _ hx₁
 have I₂ : InstAt h₂ x (excO C t0) C none := ⟨hx₂, rfl, rfl, trivial⟩
 have hI : Looks (model prog w) h₂ (isInstance (.ref x) (.type "ValueError")) true := I₂.type.andThen (looks_subIn X₂ T.veC)
 have hsup : alongIn K "__init__" (((Value.ref C :: bm).dropWhile (· != .ref C)).drop 1) = some (some (.builtin "ValueError.__init__")) := by
  have z := T.sup
  unfold ks_superIn at z
  rw [hcl] at z
  exact z
 refine kxs_getMethod kxs_ValueError hso (looks_opaque X₂ T.any) (l₀ := .ref C :: bm) (fun A Q E s k q => wpAny_bind ((looks_clsIn X₂ hcl) A _ E s k (wpAny_pure q))) rfl X₂ hsup hI (ks_ne X₂ I₂ hcl) (by decide) ?_
 have hu : (h₂.push (kxs_mw "ValueError.__init__" x)).get? h₂.objs.size = some (kxs_mw "ValueError.__init__" x) := Heap.get?_push_size _ rfl
 have keep₃ : ∀ b o, h₂.get? b = some o → (h₂.push (kxs_mw "ValueError.__init__" x)).get? b = some o := fun b o e => Heap.get?_push_of_some _ e
 refine kxs_callWith (i := "ValueError.__init__") (x := x) rfl (evalArgs_plain (Calls.spliced_cons (Calls.Constant_str (k := jj) (pos := p5) (Calls.spliced_nil ⟨hu, ?_⟩))))
 have hx₃ := keep₃ _ _ hx₂
 have X₃ : K.In (h₂.push (kxs_mw "ValueError.__init__" x)) := fun b o e => keep₃ b o (X₂ b o e)
 refine wpAny_call (codeAny_of_tree ?_)
 show wpAny _ _ (callAny (.ref h₂.objs.size) ⟨_, []⟩) _ _ _
 simp only [callAny]
 refine wpAny_bind (wpAny_load hu ?_)
 simp only [kxs_mw, show (Value.type "method-wrapper" == Value.type "method" || Value.type "method-wrapper" == Value.type "builtin_function_or_method" || Value.type "method-wrapper" == Value.type "method-wrapper") = true by decide, if_true]
 refine KFB.if_so (by decide) ?_
 refine wpAny_bind (check_bound_init F.excBase_ValueError.toExcCallFacts (X₃ _ _ hC) hx₃ rfl ?_)
 refine wpAny_bind (wpAny_pure (wpAny_pure ?_))
 refine ⟨plainId_quiet F.excBase_ValueError.init.plain _, codeAny_builtin F.excBase_ValueError.initEntry ?_⟩
 refine exc_init_tree (cls := .ref C) (t0 := t0) (dv := none) (c2 := .none) (c3 := .none) (b4 := .bool false) hx₃ (by rw [sizeLine_eq]; show 1 ≤ _; omega) fun h₄ hk₄ hx₄ _ => ?_
 have all : ∀ b o, b ≠ x → h.get? b = some o → h₄.get? b = some o := fun b o hb e => hk₄ b o hb (keep₃ b o (hk₂ b o (hk₁ b o e)))
 have hns₄ : h₄.Ns h.objs.size fun y => ((("self" : Str) :: fs).zip (Value.ref x :: vs)).reverse.lookup y := by
  obtain ⟨o, es, ep, e1, e2⟩ := hns
  exact ⟨o, es, ep, hk₄ _ _ hxL (keep₃ _ _ (hk₂ _ _ e1)), e2⟩
 refine wpAt_of_wpAny (asg_run (C := C) (x := x) (L := h.objs.size) (h₀ := h) (m := fun y => ((("self" : Str) :: fs).zip (Value.ref x :: vs)).reverse.lookup y) (env := ksEnv qual scope h.objs.size fI (.ref cda) cc) hcl (show refsVE (.ref C :: bm) = true from hbm) rfl T.sa S.kind rfl (Nat.le_refl _) hxL hself S.ka hnx hasg h₄ _ [] none
  (fun f hf => ⟨T.noN f hf, (S.kf f hf).1, (S.kf f hf).2, by obtain ⟨v, hv⟩ := inx f hf; exact ⟨v, lookup_rev_zip S.nd hv⟩⟩) X hns₄ ⟨all, ⟨_, hx₄⟩, rfl⟩ (by simp; omega) fun h' tk' od' a => ?_)
 refine hq h' tk' od' ?_
 have e : (fs.map fun f => (f, (((("self" : Str) :: fs).zip (Value.ref x :: vs)).reverse.lookup f).getD .none)) = fs.zip vs := by
  refine List.ext_getElem (by simp [hv]) fun i h1 h2 => ?_
  have hi : i < fs.length := by simpa using h1
  rw [List.getElem_map, List.getElem_zip, lookup_rev_zip (v := vs[i]) S.nd]
  ·rfl
  ·exact List.mem_iff_getElem.mpr ⟨i + 1, by simp [hv]; omega, by simp⟩
 rw [e, List.append_nil] at a
 exact a
end
end DX
set_option Elab.async false
set_option linter.all false
set_option maxRecDepth 100000
set_option maxHeartbeats 4000000
namespace DX
open PySem PySem.W PySem.Calls PyProof.Rows PySem.HandSPX
theorem mapOf_look : ∀ (r : List (Str × Value)) (y : Str), mapOf r y = r.lookup y
 | [], y => rfl
 | (f, v) :: r, y => by
  unfold mapOf
  by_cases e : y = f
  ·subst e
   rw [if_pos rfl]
   simp [List.lookup]
  ·rw [if_neg e]
   have q : (y == f) = false := by simpa using e
   simp only [List.lookup, q]
   exact mapOf_look r y
theorem lookup_none {α : Type} : ∀ {l : List (Str × α)} {n : Str}, n ∉ l.map (·.1) → l.lookup n = none
 | [], _, _ => rfl
 | (f, v) :: l, n, h => by
  rw [List.map_cons, List.mem_cons, not_or] at h
  have q : (n == f) = false := by simpa using h.1
  simp only [List.lookup, q]
  exact lookup_none h.2
structure Made (h h' : Heap) (e C : Addr) (fs : List Str) (vs : List Value) (od : Option Addr) : Prop where
 keep : ∀ b o, h.get? b = some o → h'.get? b = some o
 new : h.objs.size ≤ e
 obj : ∃ oe ws, h'.get? e = some oe ∧ oe.cls = .ref C ∧ oe.dict = od ∧ oe.data = .fields ws ∧ ws[1]? = some .none
 dict : match od with
  | none => fs = []
  | some d => h.objs.size ≤ d ∧ d ≠ e ∧ h'.Ns1 d (mapOf (fs.zip vs).reverse) ∧ fs ≠ []
section
variable {prog : Program} {w : World} {A : Around} {R : Result → Shared → Prop} {K : Frag} {mg mb : Str → Option Value} {x₀ : Str} {C fI : Addr} {fs : List Str}
theorem sup_made {h : Heap} {g : Array GenState} {d : Drawn} {tk : Nat} {os : OsState} {vs : List Value} (T : Txt prog K mg x₀ C fI fs) (X : K.In h) (hlim : h.NoLimit) (hng : h.Ns mainGlobals mg) (hnb : h.Ns builtinsNs mb) (hbb : ∀ y : Str, y ≠ "__name__" → mb y = bootBuiltins y)
  (hroom : A.depth + 1 < recursionLimit) (hv : vs.length = fs.length) (hfew : fs.length ≤ 800)
  (hq : ∀ h' tk' e od, Made h h' e C fs vs od → R (.ok (.ret (.ref e))) ⟨h', g, d, tk', os⟩) :
  codeAny (model prog w) A (.call (.ref C) ⟨vs, []⟩) R ⟨h, g, d, tk, os⟩ := by
 obtain ⟨nm, q, N, bs, bm, sn, sub, ab, col, dd, k0, k1, k2, k3, k5, hC, hbm⟩ := T.cls
 have k : ∀ b o, h.get? b = some o → ((h.push (kdv_tup vs)).push (excO C h.objs.size)).get? b = some o := fun b o e => Heap.get?_push_of_some _ (Heap.get?_push_of_some _ e)
 have hget : ((h.push (kdv_tup vs)).push (excO C h.objs.size)).get? (h.objs.size + 1) = some (excO C h.objs.size) := by heap_get
 have hnx : ∀ o, K.lookup (h.objs.size + 1) ≠ some o := fun o e => by
  have z : h.get? (h.objs.size + 1) = some o := X _ _ e
  exact absurd (Nat.lt_of_succ_lt (Heap.lt_size z)) (Nat.lt_irrefl _)
 refine call_own F.excBase_ValueError (fun X => refsVE_contains X bm hbm) (X _ _ hC) (looks_findIn X T.iC) (fun self => bind_fn X self T.tC) (by rw [sizeLine_eq, hv]; omega) ?_
 refine sup_init (h := (h.push (kdv_tup vs)).push (excO C h.objs.size)) T (fun b o e => k b o (X b o e)) (hlim.keeps k) (hng.keeps k) (hnb.keeps k) hbb hget hnx ?_ hv hfew fun h' tk' od' a => ?_
 ·show A.depth + 1 < recursionLimit
  exact hroom
 ·have old : ∀ b o, h.get? b = some o → h'.get? b = some o := fun b o e => a.keep b o (Nat.ne_of_lt (Nat.lt_succ_of_lt (Heap.lt_size e))) (k b o e)
  have sz : ((h.push (kdv_tup vs)).push (excO C h.objs.size)).objs.size = h.objs.size + 1 + 1 := by rw [Heap.size_push, Heap.size_push]
  obtain ⟨t1, ho⟩ := a.obj
  refine ⟨rfl, hq h' tk' (h.objs.size + 1) od' ⟨old, Nat.le_succ _, ⟨_, _, ho, rfl, rfl, rfl, rfl⟩, ?_⟩⟩
  have z := a.dict
  cases od' with
  | none =>
   have z : (fs.zip vs).reverse = [] := z
   have z : fs.zip vs = [] := by simpa using z
   have zl : (fs.zip vs).length = 0 := by rw [z]; rfl
   rw [List.length_zip, hv, Nat.min_self] at zl
   exact List.length_eq_zero_iff.mp zl
  | some dx =>
   obtain ⟨z1, z2, z3, z4, z5⟩ := z
   rw [sz] at z1
   exact ⟨by omega, z3, z4, fun e => z5 (by rw [e]; rfl)⟩
end
end DX
namespace L2
open PySem PySem.Spec PyProof.Rows _root_.DX
theorem relO_zip : ∀ {fs : List Str} {vs : List V} {us : List Value}, Vals vs us → ∀ f, RelO ((fs.zip vs).lookup f) ((fs.zip us).lookup f)
 | [], _, _, _, _ => trivial
 | _ :: _, [], [], _, _ => trivial
 | n :: fs, v :: vs, u :: us, .cons r1 r2, f => by
  by_cases e : f = n
  ·subst e
   simp only [List.zip_cons_cons, List.lookup, beq_self_eq_true]
   exact r1
  ·have q : (f == n) = false := by simpa using e
   simp only [List.zip_cons_cons, List.lookup, q]
   exact relO_zip r2 f
theorem relO_rev {fs : List Str} {vs : List V} {us : List Value} (nd : fs.Nodup) (r : Vals vs us) (f : Str) : RelO ((fs.zip vs).lookup f) (DX.mapOf (fs.zip us).reverse f) := by
 have e : DX.mapOf (fs.zip us).reverse f = (fs.zip us).lookup f := by
  rw [DX.mapOf_look]
  cases h : (fs.zip us).lookup f with
  | some v =>
   exact lookup_rev_zip nd (PySem.mem_of_lookup h)
  | none =>
   refine lookup_none fun z => ?_
   rw [List.map_reverse, List.mem_reverse] at z
   have key : ∀ {l : List (Str × Value)}, f ∈ l.map (·.1) → l.lookup f ≠ none := by
    intro l
    induction l with
    | nil => intro z; simp at z
    | cons p l ih =>
     intro z
     obtain ⟨n, v⟩ := p
     by_cases e : f = n
     ·subst e
      simp [List.lookup]
     ·have q : (f == n) = false := by simpa using e
      simp only [List.lookup, q]
      rw [List.map_cons, List.mem_cons] at z
      exact ih (z.resolve_left e)
   exact key z h
 rw [e]
 exact relO_zip r f
section
variable {X : Cx} {C fI : Addr}
def XQ (C : Addr) (vs : List V) (Q : XK) (H1 : Hp) : List Str → Prop
 | [] => Q (.ref C) none H1
 | f :: fs => ∀ d, H1 d = none → Q (.ref C) (some d) (upd H1 d (.xd ((f :: fs).zip vs)))
def tXMk (C : Addr) (fs : List Str) (ta : TA) : St → Hp → XK → Prop := fun σ H Q => ta σ H fun vs H1 => vs.length = fs.length ∧ XQ C vs Q H1 fs
end
end L2
set_option Elab.async false
set_option linter.all false
set_option maxRecDepth 100000
set_option maxHeartbeats 4000000
namespace DX
open PySem PySem.Spec PyProof.Rows L2
abbrev HC := Value × Option Nat × (Addr → Value → Option Addr → TS)
inductive Hds (X : Cx) : List ExceptHandler → List HC → Prop
 | nil : Hds X [] []
 | plain {x : Str} {c : Value} {ts : Addr → Value → Option Addr → TS} {b₀ : Stmt} {suite : List Stmt} {np pos' : Pos} {hds : List ExceptHandler} {l : List HC} (hc : Names X x c)
   (hsu : ∀ (a : Addr) (oe : Obj) (cls : Value) (d : Option Addr) (pn : List (Addr × Obj)), Zc cls d oe → (∃ vs, oe.data = .fields vs) → PSs (X.suite a ((a, oe) :: pn)) (b₀ :: suite) (ts a cls d)) (r : Hds X hds l) :
   Hds X (.ExceptHandler (some (.Name x np)) none (b₀ :: suite) pos' :: hds) ((c, none, ts) :: l)
 | named {x n : Str} {i : Nat} {c : Value} {ts : Addr → Value → Option Addr → TS} {b₀ : Stmt} {suite : List Stmt} {np pos' : Pos} {hds : List ExceptHandler} {l : List HC} (hc : Names X x c) (hN : X.N.Nodup) (hi : X.N[i]? = some n) (hln : X.env.kindOf n = some .local)
   (hsu : ∀ (a : Addr) (oe : Obj) (cls : Value) (d : Option Addr) (pn : List (Addr × Obj)), Zc cls d oe → (∃ vs, oe.data = .fields vs) → PSs (X.suite a ((a, oe) :: pn)) (b₀ :: suite) (ts a cls d)) (r : Hds X hds l) :
   Hds X (.ExceptHandler (some (.Name x np)) (some n) (b₀ :: suite) pos' :: hds) ((c, some i, ts) :: l)
section
variable {X : Cx} {body : List Stmt} {h₀ : ExceptHandler} {hds : List ExceptHandler} {l : List HC} {pos : Pos} {tb : WX → TS} {Wout : WX}
end
end DX
set_option Elab.async false
set_option linter.all false
set_option maxRecDepth 100000
set_option maxHeartbeats 4000000
namespace DL
open PySem PySem.Spec PyProof.Rows L2 DX
abbrev XD := Addr → List Str → List D → Prop
section
variable {c : Cn} {ς : Sta} {Φ : D → Sta → Prop} {Ψ : Psi}
def XOkW (c : Cn) (W : WX) (X : XT) : Prop := ∀ C ns fs dd ws σ k' h' ς', SR c ς' σ k' h' → XAt k' dd ns ws → RepL c.K k' ws fs → X C ns fs ς' → W (.ref C) dd σ h'
theorem ws_raise {W : WX} {X : XT} {C : Addr} {fs : List Str} {ta : TA} (hX : XOkW c W X) (h : WL c ta ς fun ds ς1 => ds.length = fs.length ∧ X C fs ds ς1) : WS c (fun _ σ H => tXMk C fs ta σ H fun cls d H' => W cls d σ H') ς Ψ := fun σ k hh S D z =>
 h σ k hh S _ fun vs k1 h1 ds ς1 S1 e1 r1 ⟨l, x⟩ => by
  refine ⟨by rw [r1.length, l], ?_⟩
  cases fs with
  | nil =>
   exact hX C [] ds none vs σ k1 h1 ς1 S1 rfl r1 x
  | cons f fs =>
   intro d hd
   have g : Grow No k1 h1 (upd k1 d (.xd ((f :: fs).zip vs))) (upd h1 d (.xd ((f :: fs).zip vs))) := Grow.new S1.kh hd (by nofun)
   exact hX C (f :: fs) ds (some d) vs σ _ _ ς1 (S1.grow g) ⟨d, rfl, upd_same⟩ (r1.mono g.kk) x
abbrev Cn.at (c : Cn) (kb : Hp) : Cn := { c with kb := kb }
theorem SR.into {σ : L2.St} {k h kb : Hp} (S : SR c ς σ k h) (e : Same kb k) : SR (c.at kb) ς σ k h := ⟨S.g, S.i, S.w, S.s, S.m, S.nd, S.len, e⟩
theorem SR.out {σ : L2.St} {k h kb : Hp} (S : SR (c.at kb) ς σ k h) (e : Same c.kb kb) : SR c ς σ k h := ⟨S.g, S.i, S.w, S.s, S.m, S.nd, S.len, e.trans S.kb⟩
end
end DL
set_option Elab.async false
set_option linter.all false
set_option maxRecDepth 100000
set_option maxHeartbeats 4000000
namespace DX
open PySem PySem.Spec PyProof.Rows L2
def tAct (f c' : Addr) (q : Str) (tl : XK → Hp → VK → Prop) (E : XK) : TE := fun σZ HZ Q => σZ[0]? = some (some (.ref f)) ∧ HZ c' = some (LamX.CodeO c' q) ∧ tl E HZ Q
def TTof (q : Str) (Ng : List Str) (T : Addr → Addr → (XK → Hp → VK → Prop) → TS) : (XK → Hp → VK → Prop) → Hp → VK → Prop := fun tl H Q => ∀ f c', H c' = some (LamX.CodeO c' q) → T f c' tl { nx := fun _ H' => Q .non H', rt := Q } (L2.start Ng [.ref f]) H
def Acts (Z : Cx) (a : Str) (f c' : Addr) (q : Str) (tl : XK → Hp → VK → Prop) : Prop := ∀ (W : WX) (pn : List (Addr × Obj)) (xe : Value → Shared → Prop) (E : XK) (p1 p2 : Pos), Takes (Z.tr pn xe) W → (∀ cls d σ' H', E cls d H' → W cls d σ' H') → PE (Z.tr pn xe) (.Call (.Name a p1) [] [] p2) (tAct f c' q tl E)
abbrev Zx (X : Cx) (Ng : List Str) (x : Str) (sg : Scope) (g : Addr) (cdg : Value) (s : Shared) (H : Hp) : Cx := cxOf C8.CX0 X.prog X.w X.K X.mg X.base Ng x sg g cdg X.A X.stack s H C8.E0
theorem gives {X : Cx} {Ng : List Str} {x a q : Str} {sg : Scope} {g : Addr} {cdg : Value} {bg : List Stmt} {T : Addr → Addr → (XK → Hp → VK → Prop) → TS}
  (h : ∀ (f c' : Addr) (s : Shared) (H : Hp) (tl : XK → Hp → VK → Prop), Acts (Zx X Ng x sg g cdg s H) a f c' q tl → PSs (Zx X Ng x sg g cdg s H).nox bg (T f c' tl)) :
  LamX.GivesTo X Ng x sg g cdg bg a q (TTof q Ng T) := fun f c' s H Q tl act hc h' => ⟨T f c' tl, h f c' s H tl act, h' f c' hc⟩
end DX
namespace DL
open PySem PySem.Spec PyProof.Rows L2 DX
def TlOk (c3 : Cn) (β : Nat) (tl : XK → Hp → VK → Prop) (Φb : D → Prop) (Xb : XD) : Prop := ∀ (σ2 : L2.St) (k2 h2 : Hp) (ς2 : Sta), SR c3 ς2 σ2 k2 h2 → ς2.m = [] → ς2.b = β → ∀ (E : XK) (Q : VK),
 (∀ v k' h' d, SR c3 ς2 σ2 k' h' → Same k2 k' → Rep c3.K k' v d → Φb d → Q v h') → (∀ C ns fs dd ws k' h', SR c3 ς2 σ2 k' h' → Same k2 k' → XAt k' dd ns ws → RepL c3.K k' ws fs → Xb C ns fs → E (.ref C) dd h') → tl E h2 Q
theorem TlOk.at {c3 : Cn} {β : Nat} {tl : XK → Hp → VK → Prop} {Φb : D → Prop} {Xb : XD} {kb : Hp} (h : TlOk c3 β tl Φb Xb) (e0 : Same c3.kb kb) : TlOk (c3.at kb) β tl Φb Xb := fun σ2 k2 h2 ς2 S hm hb E Q q1 q2 =>
 h σ2 k2 h2 ς2 (S.out e0) hm hb E Q (fun v k' h' d S' e r x => q1 v k' h' d (S'.into (S.kb.trans e)) e r x) fun C ns fs dd ws k' h' S' e a r x => q2 C ns fs dd ws k' h' (S'.into (S.kb.trans e)) e a r x
section
variable {c : Cn} {ς : Sta} {Φ : D → Sta → Prop} {Ψ : Psi}
structure TabR (c : Cn) (Tb : List (Addr × Str)) : Prop where
 k0 : ∀ a ps, c.k0 a ≠ some (.tbl ps)
 h0 : ∀ a ps, c.h0 a = some (.tbl ps) → c.R.W a
 fr : c.fr = true
 tabs : ∀ b h, c.R.I b h → LamX.Tabs Tb h
 ext : ∀ b h h', c.R.I b h → LamX.ExtN h h' → LamX.Tabs Tb h' → c.R.I b h'
 there : ∀ b h a, c.R.I b h → c.R.W a → h a ≠ none
theorem we_lam {Tb : List (Addr × Str)} {t : XK → TE} {T : Addr → Addr → (XK → Hp → VK → Prop) → TS} {Ng : List Str} {q : Str} {Φb : D → Prop} {Xb : XD} (V : TabR c Tb)
  (hb : ∀ c3 : Cn, c3.K = c.K → c3.fr = true → ∀ E, XOk c3 E (fun C ns fs ς1 => Xb C ns fs ∧ ς1 = { δ := ς.δ, b := ς.b }) → WE c3 (t E) { δ := ς.δ, b := ς.b } fun d ς1 => Φb d ∧ ς1 = { δ := ς.δ, b := ς.b })
  (hg : ∀ c3 : Cn, c3.K = c.K → c3.fr = true → ∀ f c' tl, (∀ b h, c3.R.I b h → h c' = some (LamX.CodeO c' q)) → TlOk c3 ς.b tl Φb Xb →
   WS c3 (T f c' tl) { δ := startD Ng [.ref f], b := ς.b } { nx := fun ς1 => Φ .non { ς with b := ς1.b }, rt := fun d ς1 => Φ d { ς with b := ς1.b } }) :
  WE c (LamX.tLam Tb (TTof q Ng T) t) ς Φ := fun σ k h S Q z => ⟨V.tabs _ _ S.i, fun H1 eN T1 f c' hc => by
 have kN : ∀ a ps, k a ≠ some (.tbl ps) := fun a ps q => V.k0 a ps (S.g.kt a ps q)
 have I1 : c.R.I ς.b H1 := V.ext _ _ _ S.i eN T1
 have kH1 : Same k H1 := fun a o q => eN a o (S.kh a o q) fun ps e => kN a ps (by rw [q, e])
 have S1 : SR c ς σ k H1 := by
  have hh : ∀ a o, ¬ c.R.W a → c.h0 a = some o → H1 a = some o := fun a o nw q => eN a o (S.g.hh a o nw q) fun ps e => nw (V.h0 a ps (by rw [q, e]))
  refine ⟨⟨S.g.kk, kH1, hh, fun a q => ?_, S.g.dj, S.g.kt⟩, I1, S.w, S.s, fun p hp => ?_, S.nd, S.len, S.kb⟩
  ·by_cases wa : c.R.W a
   ·exact V.there _ _ _ I1 wa
   ·cases e : c.h0 a with
    | none => exact absurd e q
    | some o => rw [hh a o wa e]; simp
  ·obtain ⟨a1, a2, a3⟩ := S.m p hp
   refine ⟨a1, a2, ?_⟩
   obtain ⟨o, mo⟩ := p
   cases mo with
   | lst ds => obtain ⟨vs, q, r⟩ := a3; exact ⟨vs, eN _ _ q (by nofun), r⟩
   | ins C dx ns ds => obtain ⟨fs, q, n, r⟩ := a3; exact ⟨fs, eN _ _ q (by nofun), n, r⟩
   | dct ks ds => obtain ⟨kvs, q, n, r⟩ := a3; exact ⟨kvs, eN _ _ q (by nofun), n, r⟩
   | gen R mo => obtain ⟨u, q, n, t, r⟩ := a3; exact ⟨u, eN _ _ q (fun ps => t ps), n, t, r⟩
 let R3 : Res := ⟨c.R.W, fun b h => c.R.I b h ∧ h c' = some (LamX.CodeO c' q), fun b h h' st ⟨x, y⟩ => ⟨c.R.st b h h' st x, st c' _ (.inr (isExt_code _ _)) y⟩⟩
 let c3 : Cn := ⟨c.K, R3, k, H1, true, k⟩
 have W3 : ∀ a, c.R.W a → k a = none ∧ H1 a ≠ none := fun a wa => ⟨S.g.dj a (S.w a wa).1 (S.w a wa).2, V.there _ _ _ I1 wa⟩
 have S3 : SR c3 { δ := startD Ng [.ref f], b := ς.b } (L2.start Ng [.ref f]) k H1 :=
  ⟨Grow.refl kH1, ⟨I1, hc⟩, W3, fun i d q => start_rep (ds := [.ref f]) (.cons (.ref f) .nil) q, fun p hp => absurd hp (by simp), List.nodup_nil, start_len rfl, Same.refl _⟩
 have tl : TlOk c3 ς.b (fun E H' Q' => t E σ H' Q') Φb Xb := by
  intro σ2 k2 h2 ς2 S2 hm hβ E Q' q1 q2
  have back : ∀ {ς1 : Sta} {k' h' : Hp}, ς1.b = ς.b → SR (c3.at k2) ς1 σ k' h' → SR c3 ς2 σ2 k' h' := fun {ς1 k' h'} eb S' =>
   ⟨S'.g, by rw [hβ, ← eb]; exact S'.i, S'.w, fun i d q => by
    obtain ⟨v, a, r⟩ := S2.s i d q
    exact ⟨v, a, r.mono S'.kb⟩, fun p hp => by rw [hm] at hp; exact absurd hp (by simp), S2.nd, S2.len, S2.kb.trans S'.kb⟩
  have Sb : SR (c3.at k2) { δ := ς.δ, b := ς.b } σ k2 h2 := ⟨S2.g, by have := S2.i; rw [hβ] at this; exact this, S2.w, fun i d q => by
   obtain ⟨v, a, r⟩ := S.s i d q
   exact ⟨v, a, r.mono S2.g.kk⟩, fun p hp => absurd hp (by simp), List.nodup_nil, S.len, Same.refl _⟩
  refine hb (c3.at k2) rfl rfl E (fun C ns fs dd ws σ' k' h' ς' S' a r ⟨x, e⟩ => ?_) σ k2 h2 Sb Q' fun v k' h' d ς1 S' e r ⟨x, eς⟩ => ?_
  ·subst e
   refine q2 C ns fs dd ws k' h' ⟨S'.g, by rw [hβ]; exact S'.i, S'.w, fun i d q => ?_, fun p hp => ?_, S2.nd, S2.len, S2.kb.trans S'.kb⟩ S'.kb a r x
   ·obtain ⟨v, a, r⟩ := S2.s i d q
    exact ⟨v, a, r.mono S'.kb⟩
   ·rw [hm] at hp
    exact absurd hp (by simp)
  ·subst eς
   exact q1 v k' h' d (back (ς1 := { δ := ς.δ, b := ς.b }) rfl S') e r x
 have fin : ∀ {ς' : Sta} {σ' : L2.St} {k' h' : Hp}, SR c3 ς' σ' k' h' → SR c { ς with b := ς'.b } σ k' h' := fun {ς' σ' k' h'} S' => S1.after S'.g S'.i.1 V.fr
 exact hg c3 rfl rfl f c' _ (fun b h x => x.2) tl (L2.start Ng [.ref f]) k H1 S3 _ ⟨fun σ' k' h' ς' S' e x => z .non k' h' .non _ (fin S') e .non x, fun _ _ _ _ _ _ x => x.elim, fun _ _ _ _ _ _ x => x.elim, fun v σ' k' h' d ς' S' e r x => z v k' h' d _ (fin S') e r x⟩⟩
end
end DL
set_option Elab.async false
set_option linter.all false
set_option maxRecDepth 100000
set_option maxHeartbeats 4000000
namespace DX
open PySem PySem.Spec PyProof.Rows L2 DL
def tRaise (C : Addr) (fs : List Str) (W : WX) (ta : TA) : TS := fun _ σ H => tXMk C fs ta σ H fun cls d H' => W cls d σ H'
theorem ws_rs {c : Cn} {ς : Sta} {Ψ : Psi} {W : WX} {X : XT} {C : Addr} {fs : List Str} {ta : TA} (hX : XOkW c W X) (h : WL c ta ς fun ds ς1 => ds.length = fs.length ∧ X C fs ds ς1) : WS c (tRaise C fs W ta) ς Ψ := ws_raise hX h
end DX
namespace DX
open PySem PySem.Spec PyProof.Rows L2 DL
end DX
set_option Elab.async false
set_option linter.all false
set_option maxRecDepth 100000
set_option maxHeartbeats 4000000
namespace DL
open PySem PySem.Spec PyProof.Rows L2 DX
section
variable {c : Cn} {ς : Sta} {Φ : D → Sta → Prop} {Ψ : Psi}
theorem take_more {α : Type} {l : List α} {i : Nat} {x : α} (h : l[i]? = some x) : l.take (i + 1) = l.take i ++ [x] := by
 rw [List.take_add_one, h]
 rfl
theorem we_lcF {wi : TI} {g : TG} {tt : TT} {te : TE} {vs : List Nat} (kg : KG g vs) (h : WI c wi ς fun ds ς1 => ∃ (p : D → Bool) (f : D → D), ds.length < sizeLine ∧
  (∀ d ∈ ds, ∀ (o : Addr) (acc : List D), WG c g d { δ := wipeD ς1.δ vs, m := (o, .lst acc) :: ς1.m, b := ς1.b } fun ς2 => WT c tt ς2 fun x ς3 => x = p d ∧
   (x = true → WE c te ς3 fun e ς4 => e = f d ∧ ς4.m = (o, .lst acc) :: ς1.m ∧ ς4.b = ς1.b) ∧ (x = false → ς3.m = (o, .lst acc) :: ς1.m ∧ ς3.b = ς1.b)) ∧
  Φ (.lst ((ds.filter p).map f)) ς1) : WE c (tLc wi g tt te vs) ς Φ := by
 refine we_lc kg fun σ k hh S Q z => h σ k hh S Q fun J k1 h1 ds ς1 S1 e1 w ⟨p, f, hl, hs, hq⟩ => ?_
 refine z J k1 h1 ds ς1 S1 e1 w ⟨fun i acc b => acc = ((ds.take i).filter p).map f ∧ b = ς1.b, ⟨rfl, rfl⟩, fun i d acc b o hi ⟨ea, eb⟩ => ?_, fun acc b ⟨ea, eb⟩ => ?_⟩
 ·subst eb
  refine fun σ k h v S r Q z => hs d (List.mem_of_getElem? hi) o acc σ k h v S r Q fun σ' k' h' ς2 S' e q => z σ' k' h' ς2 S' e fun σ k h S Q z => q σ k h S Q fun x k' h' ς3 S' e ⟨ex, q1, q2⟩ => z x k' h' ς3 S' e ⟨fun e => ?_, fun e => ?_⟩
  ·refine fun σ k h S Q z => q1 e σ k h S Q fun v k' h' d' ς4 S' e' r ⟨e1, e2, e3⟩ => z v k' h' d' ς4 S' e' r ⟨?_, e2, ?_, e3⟩
   ·rw [ea, List.length_map]
    exact Nat.lt_of_le_of_lt (Nat.le_trans (List.length_filter_le _ _) (by rw [List.length_take]; omega)) hl
   ·subst e1
    rw [take_more hi, List.filter_append, List.map_append, ← ea]
    simp [← ex, e]
  ·obtain ⟨e1, e2⟩ := q2 e
   refine ⟨e1, ?_, e2⟩
   rw [take_more hi, List.filter_append, List.map_append, ← ea]
   simp [← ex, e]
 ·subst eb
  rw [List.take_length] at ea
  rw [ea]
  exact hq
theorem we_lcM {wi : TI} {g : TG} {te : TE} {vs : List Nat} (kg : KG g vs) (h : WI c wi ς fun ds ς1 => ∃ (f : D → D), ds.length < sizeLine ∧
  (∀ d ∈ ds, ∀ (o : Addr) (acc : List D), WG c g d { δ := wipeD ς1.δ vs, m := (o, .lst acc) :: ς1.m, b := ς1.b } fun ς2 =>
   WE c te ς2 fun e ς4 => e = f d ∧ ς4.m = (o, .lst acc) :: ς1.m ∧ ς4.b = ς1.b) ∧
  Φ (.lst (ds.map f)) ς1) : WE c (tLc wi g tYes te vs) ς Φ := by
 refine we_lcF kg fun σ k hh S Q z => h σ k hh S Q fun J k1 h1 ds ς1 S1 e1 w ⟨f, hl, hs, hq⟩ => ?_
 refine z J k1 h1 ds ς1 S1 e1 w ⟨fun _ => true, f, hl, fun d hd o acc => ?_, ?_⟩
 ·refine fun σ k h v S r Q z => hs d hd o acc σ k h v S r Q fun σ' k' h' ς2 S' e q => z σ' k' h' ς2 S' e (wt_yes ⟨rfl, fun _ => q, fun e => nomatch e⟩)
 ·have e : ds.filter (fun _ => true) = ds := by simp
  rw [e]
  exact hq
def tyS (d : D) : String := (tyN d).getD ""
theorem rc_isiS {K : PySem.W.Frag} {Φ' : D → Prop} {d : D} {n : String} (hs : (tyN d).isSome = true) (hn : Knd n) (q : Φ' (.bl (isB (tyS d) n))) : RC K (rIsi K) [d, .ty n] Φ' := by
 obtain ⟨s, e⟩ := Option.isSome_iff_exists.mp hs
 refine rc_isi e hn ?_
 have : tyS d = s := by unfold tyS; rw [e]; rfl
 rw [← this]
 exact q
def isK (d : D) (n : String) : Option Bool := (tyN d).bind fun s => if ["NoneType", "bool", "int", "str", "list", "tuple", "dict"].contains n then some (isB s n) else none
theorem rc_isiB {K : PySem.W.Frag} {Φ' : D → Prop} {d : D} {n : String} {r : Bool} (h : isK d n = some r) (q : Φ' (.bl r)) : RC K (rIsi K) [d, .ty n] Φ' := by
 unfold isK at h
 obtain ⟨s, e, h⟩ := Option.bind_eq_some_iff.mp h
 split at h
 ·rename_i hc
  cases h
  refine rc_isi e ?_ q
  simpa [Knd] using hc
 ·cases h
theorem rc_anyF {K : PySem.W.Frag} {Φ : D → Prop} {ds : List D} {f : D → Bool} (q : Φ (.bl (ds.any f))) : RC K (rAny K) [.lst (ds.map fun d => .bl (f d))] Φ := by
 have e : (ds.map fun d => D.bl (f d)) = (ds.map f).map D.bl := by rw [List.map_map]; rfl
 rw [e]
 refine rc_any ?_
 rw [List.any_map]
 exact q
theorem rc_allF {K : PySem.W.Frag} {Φ : D → Prop} {ds : List D} {f : D → Bool} (q : Φ (.bl (ds.all f))) : RC K (rAll K) [.lst (ds.map fun d => .bl (f d))] Φ := by
 have e : (ds.map fun d => D.bl (f d)) = (ds.map f).map D.bl := by rw [List.map_map]; rfl
 rw [e]
 refine rc_all ?_
 rw [List.all_map]
 exact q
end
end DL
set_option Elab.async false
set_option linter.all false
set_option maxRecDepth 100000
set_option maxHeartbeats 4000000
namespace DK
open PySem PySem.Spec PyProof.Rows L2 DL
section
variable {X : Cx} {K : PySem.W.Frag}
theorem op_add (h : X.K = K := by rfl) : OpR X (binaryOp .Add) (rAddK K) := by subst h; exact op_addK
theorem op_eq (hu : X.A.units + 64 < cLine) (h : X.K = K := by rfl) : OpR X (compareOp .Eq) (rEqK K) := by subst h; exact op_eqK hu
theorem op_ne (hu : X.A.units + 64 < cLine) (h : X.K = K := by rfl) : OpR X (compareOp .NotEq) (rNeK K) := by subst h; exact op_neK hu
theorem ix (h : X.K = K := by rfl) : IxR X (rIxK K) := by subst h; exact ix_K
theorem sl (h : X.K = K := by rfl) : SlR X (rSlK K) := by subst h; exact sl_K
theorem len (h : X.K = K := by rfl) : CallR X (.builtin "len") (rLenK K) := by subst h; exact call_lenK
theorem lst (h : X.K = K := by rfl) : CallR X (.type "list") (rListK K) := by subst h; exact call_listK
theorem tup (h : X.K = K := by rfl) : CallR X (.type "tuple") (rTupK K) := by subst h; exact call_tupK
theorem isi (h : X.K = K := by rfl) : CallR X (.builtin "isinstance") (rIsi K) := by subst h; exact call_isi
theorem any (h : X.K = K := by rfl) (hc : X.calm = true := by rfl) : CallR X (.builtin "any") (rAny K) := by subst h; exact cr_any hc
theorem all (h : X.K = K := by rfl) (hc : X.calm = true := by rfl) : CallR X (.builtin "all") (rAll K) := by subst h; exact cr_all hc
theorem sum (h : X.K = K := by rfl) (hc : X.calm = true := by rfl) : CallR X (.builtin "sum") (rSum K) := by subst h; exact cr_sum hc
theorem min (h : X.K = K := by rfl) (hc : X.calm = true := by rfl) : CallR X (.builtin "min") (rMin K) := by subst h; exact cr_min hc
theorem pi_list {tg l : Expr} {tl : TE} (hl : PE X l tl) (h : X.K = K := by rfl) : PI X tg l (iList K tl) := by subst h; exact L2.pi_list hl
theorem pi_tup {tg l : Expr} {tl : TE} (hl : PE X l tl) (h : X.K = K := by rfl) : PI X tg l (iTup K tl) := by subst h; exact L2.pi_tup hl
theorem pi_seq {tg l : Expr} {tl : TE} (hl : PE X l tl) (h : X.K = K := by rfl) : PI X tg l (iSeq K tl) := by subst h; exact DL.pi_seq hl
theorem pg_tup {es : List Expr} {k : Nat} {t : TGs} {n : Nat} {pos : Pos} (hc : X.calm = true) (ha : PGs X es t) (h : X.K = K := by rfl)
  (hn : (assignEach es X.env).length = n := by rfl) (hst : (assignEach es X.env).findIdx? (·.1) = none := by rfl) : PG X (.Tuple es k pos) (gTup K n t) := by subst h; exact L2.pg_tup hc ha hn hst
end
end DK
namespace DL
open PySem PySem.Spec PyProof.Rows L2 DX
section
variable {c : Cn} {ς : Sta} {Φ : D → Sta → Prop} {Ψ : Psi}
inductive OutP (Φ : D → Sta → Prop) (X : XT) (ς : Sta) : Out → Prop
 | ret {d : D} (q : Φ d ς) : OutP Φ X ς (.ret d)
 | exc {C : Addr} {ns : List Str} {fs : List D} (q : X C ns fs ς) : OutP Φ X ς (.exc C ns fs)
theorem we_callF {n : Nat} {g : List D → Option Out} {E : XK} {ta : TA} {X : XT} (hE : XOk c E X) (h : WL c ta ς fun ds ς1 => ds.length = n ∧ ∃ o, g ds = some o ∧ OutP Φ X ς1 o) : WE c (tCall (SpS c.K n (spcF g)) [] E ta) ς Φ := by
 refine we_call hE fun σ k hh S Q z => h σ k hh S Q fun vs k' h' ds ς' S' e r ⟨h1, o, h2, h3⟩ => z vs k' h' ds ς' S' e r ⟨h1, ⟨o, h2⟩, fun d b q => ?_, fun C ns fs b q => ?_⟩
 ·have e := h2.symm.trans q.1
  cases e
  cases h3 with
  | ret q => exact q
 ·have e := h2.symm.trans q.1
  cases e
  cases h3 with
  | exc q => exact q
theorem co_ret {n : Nat} {g : List D → Option Out} {ds : List D} {X : XT} {d : D} (hl : ds.length = n) (hg : g ds = some (.ret d)) (q : Φ d ς) : ds.length = n ∧ ∃ o, g ds = some o ∧ OutP Φ X ς o := ⟨hl, _, hg, .ret q⟩
end
end DL
namespace DL
theorem brT2 {p q : Prop} {b : Bool} (h : b = true) (x : p) : (b = true → p) ∧ (b = false → q) := ⟨fun _ => x, fun z => by rw [h] at z; cases z⟩
theorem brF2 {p q : Prop} {b : Bool} (h : b = false) (x : q) : (b = true → p) ∧ (b = false → q) := ⟨fun z => (by rw [h] at z; cases z), fun _ => x⟩
theorem brT3 {p q : Prop} {b : Bool} (h : b = true) (x : p) : (b = false → q) ∧ (b = true → p) := ⟨fun z => (by rw [h] at z; cases z), fun _ => x⟩
theorem brF3 {p q : Prop} {b : Bool} (h : b = false) (x : q) : (b = false → q) ∧ (b = true → p) := ⟨fun _ => x, fun z => by rw [h] at z; cases z⟩
end DL
namespace DL
end DL
namespace DL
open PySem
theorem szB {n : Nat} {p : Prop} (h : Nat.ble n 1000 = true) (q : p) : n ≤ sizeLine ∧ p := ⟨by rw [sizeLine_eq]; exact Nat.le_trans (Nat.le_of_ble_eq_true h) (by decide), q⟩
theorem szL {n : Nat} {p : Prop} (h : Nat.ble n 1000 = true) (q : p) : n < sizeLine ∧ p := ⟨by rw [sizeLine_eq]; exact Nat.lt_of_le_of_lt (Nat.le_of_ble_eq_true h) (by decide), q⟩
end DL
namespace DL
open PySem PySem.Spec PyProof.Rows L2
theorem wg_nm {c : Cn} {ς : Sta} {i : Nat} {d : D} {Φ : Sta → Prop} (hi : Nat.blt i ς.δ.length = true) (q : Φ { ς with δ := ς.δ.set i (some d) }) : WG c (gName i) d ς Φ := wg_name (Nat.blt_eq.mp hi) q
end DL
namespace DL
open PySem PySem.Spec PyProof.Rows L2
theorem rng_mem {lo : Int} {n : Nat} {d : D} (h : d ∈ rngD lo n) : ∃ x, d = .int x ∧ lo ≤ x ∧ x < lo + n := by
 obtain ⟨i, hi, e⟩ := List.mem_iff_getElem.mp h
 obtain ⟨e1, e2⟩ := rngD_get (lo := lo) (n := n) (i := i) (d := d) (by rw [List.getElem?_eq_getElem hi, e])
 exact ⟨_, e1, by omega, by omega⟩
theorem le_size {n : Nat} (h : n ≤ 16777216) : n ≤ sizeLine := by rw [sizeLine_eq]; exact h
theorem lt_size {n : Nat} (h : n < 16777216) : n < sizeLine := by rw [sizeLine_eq]; exact h
theorem mul_small {i j : Int} (h1 : -(2 ^ 64) < i) (h2 : i < 2 ^ 64) : CMul i j := .inl ⟨h1, h2⟩
end DL
namespace DL
open PySem PySem.Spec PyProof.Rows L2
theorem atI_nat {α : Type} {l : List α} {i : Nat} {x : α} (h : l[i]? = some x) : atI l (i : Int) = some x := by
 have hl : i < l.length := (List.getElem?_eq_some_iff.mp h).1
 have e : ixN l.length (i : Int) = some i := by
  unfold ixN
  rw [if_pos (by omega), if_pos (by omega)]
  rfl
 unfold atI
 rw [e]
 exact h
theorem atI_0 {α : Type} {l : List α} {x : α} : atI (x :: l) 0 = some x := atI_nat (i := 0) rfl
theorem atI_1 {α : Type} {l : List α} {x y : α} : atI (x :: y :: l) 1 = some y := atI_nat (i := 1) rfl
theorem atI_2 {α : Type} {l : List α} {x y z : α} : atI (x :: y :: z :: l) 2 = some z := atI_nat (i := 2) rfl
theorem atI_3 {α : Type} {l : List α} {x y z u : α} : atI (x :: y :: z :: u :: l) 3 = some u := atI_nat (i := 3) rfl
end DL
namespace DL
theorem parB {x y : D} {i j n : Nat} {P : D → D → Prop} (hi : Nat.blt i n = true) (hj : Nat.blt j n = true) (q : P x y) : ∃ d e, [x, y] = [d, e] ∧ i < n ∧ j < n ∧ P d e := ⟨x, y, rfl, Nat.blt_eq.mp hi, Nat.blt_eq.mp hj, q⟩
end DL
set_option Elab.async false
set_option linter.all false
set_option maxRecDepth 100000
set_option maxHeartbeats 4000000
namespace DL
open PySem PySem.Spec PyProof.Rows L2 DX
def wres (a l : Addr) : Res := ⟨fun z => z = a ∨ z = l, fun _ _ => True, fun _ _ _ _ h => h⟩
abbrev StM (a l : Addr) (cells : List Int) (x n m : Int) : List (Addr × MO) := [(a, .lst [.ref l, .int x, .int n, .int m]), (l, .lst (cells.map D.int))]
def drawSpc (P : List D → Nat → Prop) (Q : List D → Nat → D → Nat → Prop) : Spc where
 pre := fun R ds b => ∃ a l as, R = strm a l ∧ ds = .ref a :: as ∧ P as b
 post := fun R ds b d b' => ∃ a as, ds = .ref a :: as ∧ Q as b d b'
section
variable {P : Program} {w : World} {K : PySem.W.Frag} {mg : Str → Option Value} {base : Heap}
theorem fn_strm {x qual : Str} {st : Stmt} {f : Addr} {fd : FuncData} {N ps : List Str} {k n : Nat} {Pr : List D → Nat → Prop} {Po : List D → Nat → D → Nat → Prop} (Fn : Fun K x qual st f fd) (S : FnScope N ps (defScope st)) (hn : ps.length = n)
  (hbody : ∀ (cdv : Value) (A : Around) (outer : List Env) (sh : Shared) (H : Hp) (E : XK), Room k (A.deeper (envOfC qual (defScope st) sh.heap.objs.size f cdv)) →
   ∃ t, PSs (cxOf (L2.CX P w) P w K mg base N qual (defScope st) f cdv A outer sh H E) (defBody st) t ∧
    ∀ (a l : Addr) (k0 : Hp) (as : List D) (b : Nat) (cells : List Int) (x nn m : Int), Pr as b → (D.ref a :: as).length = n → 0 ≤ nn → nn ≤ b → 0 ≤ m → m < 2147483647 →
     WS ⟨K, wres a l, k0, H, false, fun _ => none⟩ t { δ := startD N (.ref a :: as), m := StM a l cells x nn m, b := 0 }
      { nx := fun _ => False, rt := fun d ς => ∃ cells' x' n' m' b', ς.m = StM a l cells' x' n' m' ∧ 0 ≤ n' ∧ n' ≤ (b' : Nat) ∧ 0 ≤ m' ∧ m' < 2147483647 ∧ Po as b d b' }) :
  FnOk P w K mg base (L2.CX P w) (k + 1) f fd ps (SpS K n (drawSpc Pr Po)) := by
 refine Fn.okX S (fun vs H Q E h => by rw [h.1, hn]) fun cdv A outer sh H vs Q E hr h => ?_
 obtain ⟨t, ht, hw⟩ := hbody cdv A outer sh H E hr
 obtain ⟨hl, R, k0, ds, b, rl, e, hi, hW, ⟨a, l, as, rfl, rfl, hp⟩, hq, hx⟩ := h
 refine ⟨t, ht, ?_⟩
 obtain ⟨nal, cells, x, nn, m, ha, hlq, n1, n2, m1, m2⟩ := hi
 have hwa := hW a (.inl rfl)
 have hwl := hW l (.inr rfl)
 have S0 : SR ⟨K, wres a l, k0, H, false, fun _ => none⟩ { δ := startD N (.ref a :: as), m := StM a l cells x nn m, b := 0 } (L2.start N vs) k0 H := by
  refine ⟨Grow.refl e, trivial, hW, fun i d q => start_rep rl q, fun p hp => ?_, ?_, start_len rl.length, fun _ _ z => by cases z⟩
  ·rcases List.mem_cons.mp hp with e1 | hp
   ·subst e1
    exact ⟨hwa.1, .inr ⟨rfl, .inl rfl⟩, _, ha, .cons (.ref l) (.cons (.int x) (.cons (.int nn) (.cons (.int m) .nil)))⟩
   ·have e1 := List.mem_singleton.mp hp
    subst e1
    exact ⟨hwl.1, .inr ⟨rfl, .inr rfl⟩, _, hlq, RepL.ofInts cells⟩
  ·show [a, l].Nodup
   simp [nal]
 refine hw a l k0 as b cells x nn m hp (by rw [← rl.length, hl]) n1 n2 m1 m2 (L2.start N vs) k0 H S0 _ ⟨fun _ _ _ _ _ _ q => q.elim, fun _ _ _ _ _ _ q => q.elim, fun _ _ _ _ _ _ q => q.elim, fun v σ' k' h' d ς' S' _ r q => ?_⟩
 obtain ⟨cells', x', n', m', b', em, q1, q2, q3, q4, q5⟩ := q
 obtain ⟨_, _, va, ea, ra⟩ := S'.m (a, .lst [.ref l, .int x', .int n', .int m']) (by rw [em]; simp)
 obtain ⟨_, _, vl, el, rlq⟩ := S'.m (l, .lst (cells'.map D.int)) (by rw [em]; simp)
 have ea : h' a = some (.lst va) := ea
 have el : h' l = some (.lst vl) := el
 cases RepL.ints rlq
 cases ra with
 | cons r1 ra => cases r1; cases ra with
  | cons r2 ra => cases r2; cases ra with
   | cons r3 ra => cases r3; cases ra with
    | cons r4 ra => cases r4; cases ra; exact hq d b' ⟨a, as, rfl, q5⟩ v k' h' S'.g ⟨nal, cells', x', n', m', ea, el, q1, q2, q3, q4⟩ r
end
structure SubR (c : Cn) (R1 : Res) : Prop where
 fr : c.fr = true
 w : ∀ a, R1.W a → c.R.W a
 i : ∀ b h, c.R.I b h → R1.I b h
 back : ∀ b b' h h', c.R.I b h → (∀ a o, ¬ R1.W a → h a = some o → h' a = some o) → R1.I b' h' → c.R.I b' h'
theorem SubR.self {c : Cn} (hf : c.fr = true) : SubR c c.R := ⟨hf, fun _ h => h, fun _ _ h => h, fun _ _ _ _ _ _ h => h⟩
section
variable {c : Cn} {ς : Sta} {Φ : D → Sta → Prop}
theorem we_callR {n : Nat} {s : Spc} {E : XK} {ta : TA} {X : XT} {R1 : Res} (V : SubR c R1) (hE : XOk c E X)
  (h : WL c ta ς fun ds ς1 => ds.length = n ∧ s.pre R1 ds ς1.b ∧ (∀ d b, s.post R1 ds ς1.b d b → Φ d { ς1 with b := b }) ∧ ∀ C ns fs b, s.exc R1 ds ς1.b C ns fs b → X C ns fs { ς1 with b := b }) : WE c (tCall (SpS c.K n s) [] E ta) ς Φ := fun σ k hh S Q z =>
 h σ k hh S _ fun vs k1 h1 ds ς1 S1 e1 r1 ⟨l, p1, p2, p3⟩ => by
  rw [List.append_nil]
  have wide : ∀ {k' h' : Hp} {b : Nat}, Grow R1.W k1 h1 k' h' → R1.I b h' → SR c { ς1 with b := b } σ k' h' := fun {k' h' b} g i =>
   S1.after (g.wide V.w) (V.back _ _ _ _ S1.i (fun a o nw q => g.hh a o nw q) i) V.fr
  refine ⟨by rw [r1.length, l], R1, k1, ds, ς1.b, r1, S1.kh, V.i _ _ S1.i, fun a z => ⟨S1.g.dj a (S1.w a (V.w a z)).1 (S1.w a (V.w a z)).2, S1.g.hd a (S1.w a (V.w a z)).2⟩, p1, fun d b q v k' h' g i r => ?_, fun C ns fs b q dd ws k' h' g i e r => ?_⟩
  ·exact z v k' h' d _ (wide g i) (e1.trans g.kk) r (p2 d b q)
  ·exact hE C ns fs dd ws σ k' h' _ (wide g i) e r (p3 C ns fs b q)
end
def strmT (a l : Addr) (Tb : List (Addr × Str)) : Res where
 W := fun z => z = a ∨ z = l ∨ ∃ q, (z, q) ∈ Tb
 I := fun b h => (a ≠ l ∧ StrmAt a l b h) ∧ LamX.Tabs Tb h
 st := fun b h h' st ⟨⟨nal, cells, x, n, m, h1, h2, h3⟩, t⟩ => ⟨⟨nal, cells, x, n, m, st _ _ (.inl (.inl rfl)) h1, st _ _ (.inl (.inr (.inl rfl))) h2, h3⟩, fun p hp => by
  obtain ⟨ps, e1, e2, e3⟩ := t p hp
  refine ⟨ps, st _ _ (.inl (.inr (.inr ⟨p.2, hp⟩))) e1, e2, fun pos cv hc => ?_⟩
  obtain ⟨c, q1, q2⟩ := e3 pos cv hc
  exact ⟨c, q1, st _ _ (.inr (isExt_code _ _)) q2⟩⟩
theorem strmT_sub {c : Cn} {a l : Addr} {Tb : List (Addr × Str)} (hf : c.fr = true) (hR : c.R = strmT a l Tb) : SubR c (strm a l) := by
 refine ⟨hf, fun z hz => ?_, fun b h hi => ?_, fun b b' h h' hi k i => ?_⟩
 ·rw [hR]
  rcases hz with e | e
  ·exact .inl e
  ·exact .inr (.inl e)
 ·rw [hR] at hi
  exact hi.1
 ·rw [hR] at hi ⊢
  refine ⟨i, fun p hp => ?_⟩
  obtain ⟨⟨nal, cells, x, n, m, h1, h2, h3⟩, t⟩ := hi
  obtain ⟨ps, e1, e2, e3⟩ := t p hp
  have nw : ∀ {z : Addr} {o : HO}, (∀ vs, o ≠ .lst vs) → h z = some o → ¬ (strm a l).W z := fun {z o} ne q w => by
   rcases w with w | w
   ·rw [w, h1] at q
    exact ne _ (Option.some.inj q).symm
   ·rw [w, h2] at q
    exact ne _ (Option.some.inj q).symm
  refine ⟨ps, k _ _ (nw (by nofun) e1) e1, e2, fun pos cv hc => ?_⟩
  obtain ⟨cc, q1, q2⟩ := e3 pos cv hc
  exact ⟨cc, q1, k _ _ (nw (fun vs z => by unfold LamX.CodeO at z; cases z) q2) q2⟩
def spStart (K : PySem.W.Frag) : Sp := fun vs H Q _ => ∃ (a : Addr) (ns : List Int), vs = [.ref a] ∧ SqL K H a (ns.map V.int) ∧
 ∀ l s, H l = none → H s = none → l ≠ s → Q (.ref s) (upd (upd H l (.lst (ns.map V.int))) s (.lst [.ref l, .int 0, .int 0, .int 11]))
end DL
set_option Elab.async false
set_option linter.all false
set_option maxRecDepth 100000
set_option maxHeartbeats 4000000
namespace DL
open PySem PySem.Spec PyProof.Rows L2 DX
section
variable {c : Cn} {ς : Sta} {Φ : D → Sta → Prop} {Ψ : Psi} {a : Addr} {d0 d1 d2 d3 d : D} {Φ' : Sta → Prop}
theorem we_s0 (h0 : ς.δ[0]? = some (some (.ref a))) (hm : ς.m[0]? = some (a, .lst [d0, d1, d2, d3])) (q : Φ d0 ς) : WE c (tOp (rIxK c.K) (tVar 0) (tC (.int 0))) ς Φ :=
 we_ixM (j := 0) (we_var h0 ⟨rfl, we_int ⟨0, rfl, hm, atI_0, q⟩⟩)
theorem we_s1 (h0 : ς.δ[0]? = some (some (.ref a))) (hm : ς.m[0]? = some (a, .lst [d0, d1, d2, d3])) (q : Φ d1 ς) : WE c (tOp (rIxK c.K) (tVar 0) (tC (.int 1))) ς Φ :=
 we_ixM (j := 0) (we_var h0 ⟨rfl, we_int ⟨1, rfl, hm, atI_1, q⟩⟩)
theorem we_s2 (h0 : ς.δ[0]? = some (some (.ref a))) (hm : ς.m[0]? = some (a, .lst [d0, d1, d2, d3])) (q : Φ d2 ς) : WE c (tOp (rIxK c.K) (tVar 0) (tC (.int 2))) ς Φ :=
 we_ixM (j := 0) (we_var h0 ⟨rfl, we_int ⟨2, rfl, hm, atI_2, q⟩⟩)
theorem we_s3 (h0 : ς.δ[0]? = some (some (.ref a))) (hm : ς.m[0]? = some (a, .lst [d0, d1, d2, d3])) (q : Φ d3 ς) : WE c (tOp (rIxK c.K) (tVar 0) (tC (.int 3))) ς Φ :=
 we_ixM (j := 0) (we_var h0 ⟨rfl, we_int ⟨3, rfl, hm, atI_3, q⟩⟩)
theorem wg_s1 (hI : ∀ b h h', c.fr = false → c.R.I b h → c.R.I b h') (h0 : ς.δ[0]? = some (some (.ref a))) (hm : ς.m[0]? = some (a, .lst [d0, d1, d2, d3])) (q : Φ' { ς with m := ς.m.set 0 (a, .lst [d0, d, d2, d3]) }) : WG c (gSub (tVar 0) (tC (.int 1)) rSetL) d ς Φ' :=
 wg_sub (j := 0) (i := 1) hI (we_var h0 ⟨rfl, we_int ⟨1, rfl, rfl, hm, q⟩⟩)
theorem wg_s2 (hI : ∀ b h h', c.fr = false → c.R.I b h → c.R.I b h') (h0 : ς.δ[0]? = some (some (.ref a))) (hm : ς.m[0]? = some (a, .lst [d0, d1, d2, d3])) (q : Φ' { ς with m := ς.m.set 0 (a, .lst [d0, d1, d, d3]) }) : WG c (gSub (tVar 0) (tC (.int 2)) rSetL) d ς Φ' :=
 wg_sub (j := 0) (i := 2) hI (we_var h0 ⟨rfl, we_int ⟨2, rfl, rfl, hm, q⟩⟩)
theorem wg_s3 (hI : ∀ b h h', c.fr = false → c.R.I b h → c.R.I b h') (h0 : ς.δ[0]? = some (some (.ref a))) (hm : ς.m[0]? = some (a, .lst [d0, d1, d2, d3])) (q : Φ' { ς with m := ς.m.set 0 (a, .lst [d0, d1, d2, d]) }) : WG c (gSub (tVar 0) (tC (.int 3)) rSetL) d ς Φ' :=
 wg_sub (j := 0) (i := 3) hI (we_var h0 ⟨rfl, we_int ⟨3, rfl, rfl, hm, q⟩⟩)
theorem toPy_ints : ∀ ns : List Int, toPyL (ns.map D.int) = ns.map PyData.int
 | [] => rfl
 | n :: ns => by
  show _ :: _ = _
  rw [toPy_ints ns]
  rfl
theorem shaped_ints (ns : List Int) : SeqAt.shaped (D.lst (ns.map D.int)).toPy = true := by
 show SeqAt.shaped (.list (toPyL (ns.map D.int))) = true
 rw [toPy_ints]
 induction ns with
 | nil => rfl
 | cons n ns ih => exact ih
theorem we_sne {l : Addr} {cells : List Int} {te : TE} (h : WE c te ς fun x ς1 => x = .ref l ∧ ς1.m[1]? = some (l, .lst (cells.map D.int)) ∧ Φ (.bl (!cells.isEmpty)) ς1) : WE c (tOp (rNeK c.K) te (tLst tNil)) ς Φ :=
 we_neM (j := 1) fun σ k hh S Q z => h σ k hh S Q fun v k' h' x ς' S' e r ⟨h1, h2, h3⟩ => z v k' h' x ς' S' e r ⟨h1, we_lst (wl_nil (szB rfl ⟨h2, shaped_ints _, rfl, by
  have e : (!PyData.eqv (D.lst (cells.map D.int)).toPy (D.lst []).toPy) = !cells.isEmpty := by
   show (!PyData.eqv (.list (toPyL (cells.map D.int))) (.list [])) = _
   cases cells <;> rfl
  rw [e]
  exact h3⟩))⟩
theorem we_spop {l : Addr} {cc : Int} {cells : List Int} {te : TE} (hI : ∀ b h h', c.fr = false → c.R.I b h → c.R.I b h') (h : WE c te ς fun x ς1 => x = .ref l ∧ ς1.m[1]? = some (l, .lst ((cc :: cells).map D.int)) ∧ Φ (.int cc) { ς1 with m := ς1.m.set 1 (l, .lst (cells.map D.int)) }) :
  WE c (tBM c.K "list" rPopAt te (tCons (tC (.int 0)) tNil)) ς Φ :=
 we_pop (j := 1) (i := 0) hI fun σ k hh S Q z => h σ k hh S Q fun v k' h' x ς' S' e r ⟨h1, h2, h3⟩ => z v k' h' x ς' S' e r ⟨h1, ⟨_, h2⟩, we_int ⟨rfl, by decide, h2, rfl, h3⟩⟩
end
end DL
set_option Elab.async false
set_option linter.all false
set_option maxRecDepth 100000
set_option maxHeartbeats 4000000
namespace DL
open PySem PySem.Spec PyProof.Rows L2 DX
section
variable {c : Cn} {ς : Sta} {Φ : D → Sta → Prop} {K : PySem.W.Frag} {Φ' : D → Prop}
theorem we_dnew (q : Φ (.dct [] []) ς) : WE c tDNewK ς Φ := fun σ k h S Q z p hp => by
 have g : Grow No k h (upd k p (.dK [])) (upd h p (.dK [])) := Grow.new S.kh hp (by nofun)
 exact z _ _ _ _ ς (S.grow g) g.kk (.dct (kvs := []) upd_same rfl .nil) q
def isKs (d : D) (ns : List String) : Option Bool := (tyN d).map fun s => ns.any fun n => isB s n
theorem we_isiLT {te : TE} (h : WE c te ς fun d ς1 => ∃ r, isKs d ["list", "tuple"] = some r ∧ Φ (.bl r) ς1) : WE c (tCB (rIsiT c.K) (tCons te (tCons (tTup (tCons (tC (.ty "list")) (tCons (tC (.ty "tuple")) tNil))) tNil))) ς Φ :=
 we_isiT (ns := ["list", "tuple"]) (by simp [Knd]) (by decide) fun σ k hh S Q z => h σ k hh S Q fun v k' h' d ς' S' e r ⟨b, h1, h2⟩ => by
  obtain ⟨s, e1, e2⟩ := Option.map_eq_some_iff.mp h1
  exact z v k' h' d ς' S' e r ⟨s, e1, by rw [e2]; exact h2⟩
theorem we_isiILT {te : TE} (h : WE c te ς fun d ς1 => ∃ r, isKs d ["int", "list", "tuple"] = some r ∧ Φ (.bl r) ς1) : WE c (tCB (rIsiT c.K) (tCons te (tCons (tTup (tCons (tC (.ty "int")) (tCons (tC (.ty "list")) (tCons (tC (.ty "tuple")) tNil)))) tNil))) ς Φ :=
 we_isiT (ns := ["int", "list", "tuple"]) (by simp [Knd]) (by decide) fun σ k hh S Q z => h σ k hh S Q fun v k' h' d ς' S' e r ⟨b, h1, h2⟩ => by
  obtain ⟨s, e1, e2⟩ := Option.map_eq_some_iff.mp h1
  exact z v k' h' d ς' S' e r ⟨s, e1, by rw [e2]; exact h2⟩
theorem wi_seqV {i : Nat} {d : D} {l : List D} {Ψ : List D → Sta → Prop} (h0 : ς.δ[i]? = some (some d)) (hs : seqOf d = some l) (q : Ψ l ς) : WI c (iSeq c.K (tVar i)) ς Ψ := by
 cases d <;> cases hs
 ·exact wi_seqL (we_var h0 ⟨_, rfl, q⟩)
 ·exact wi_seqT (we_var h0 ⟨_, rfl, q⟩)
 ·exact wi_seqT (we_weak (we_var h0 ⟨_, rfl, _, rfl, q⟩))
end
end DL
namespace DL
open PySem PySem.Spec PyProof.Rows L2 DX
section
variable {c : Cn} {Ψ : Psi} {Xo : XT} {C : Addr} {ns : List Str} {f : Str} {fs : List D} {ς : Sta} {cv : Value} {oi : Option Nat} {ts : Addr → Value → Option Addr → TS} {l : List HC}
end
end DL
set_option Elab.async false
set_option linter.all false
set_option maxRecDepth 100000
set_option maxHeartbeats 4000000
namespace DL
open PySem PySem.Spec PyProof.Rows L2 DX
abbrev lawC (K : PySem.W.Frag) (s l tL : Addr) (q : Str) (h : Hp) : Cn := ⟨K, strmT s l [(tL, q)], fun _ => none, fun z => if z = s ∨ z = l ∨ z = tL then h z else none, true, fun _ => none⟩
theorem law_sr {K : PySem.W.Frag} {H : Hp} {l s tL : Addr} {q : Str} {ns : List Int} {σ : L2.St} {δ : List (Option D)} (hl : H l = none) (hs : H s = none) (hne : l ≠ s) (ht : H tL = some (.tbl #[])) (hσ : ∀ (i : Nat) (d : D), δ[i]? = some (some d) → d = .ref s ∧ σ[i]? = some (some (V.ref s))) (hlen : δ.length = σ.length) :
  SR (lawC K s l tL q (upd (upd H l (.lst (ns.map V.int))) s (.lst [.ref l, .int 0, .int 0, .int 11]))) { δ := δ, b := 0 } σ (fun _ => none) (upd (upd H l (.lst (ns.map V.int))) s (.lst [.ref l, .int 0, .int 0, .int 11])) := by
 have tl : tL ≠ l := fun e => by rw [e, hl] at ht; cases ht
 have ts : tL ≠ s := fun e => by rw [e, hs] at ht; cases ht
 have e1 : upd (upd H l (.lst (ns.map V.int))) s (.lst [.ref l, .int 0, .int 0, .int 11]) s = some (.lst [.ref l, .int 0, .int 0, .int 11]) := upd_same
 have e2 : upd (upd H l (.lst (ns.map V.int))) s (.lst [.ref l, .int 0, .int 0, .int 11]) l = some (.lst (ns.map V.int)) := by rw [upd_ne hne, upd_same]
 have e3 : upd (upd H l (.lst (ns.map V.int))) s (.lst [.ref l, .int 0, .int 0, .int 11]) tL = some (.tbl #[]) := by rw [upd_ne ts, upd_ne tl]; exact ht
 refine ⟨⟨Same.refl _, fun _ _ z => (nomatch z), fun z o _ hz => ?_, fun z hz => ?_, fun _ z _ => z, fun _ _ z => (nomatch z)⟩, ⟨⟨hne.symm, ns, 0, 0, 11, e1, e2, by omega, by simp, by omega, by omega⟩, fun p hp => ?_⟩, fun z hz => ⟨rfl, ?_⟩, fun i d hi => ?_, fun p hp => absurd hp (by simp), List.nodup_nil, hlen, fun _ _ z => (nomatch z)⟩
 ·have hz : (if z = s ∨ z = l ∨ z = tL then _ else none) = some o := hz
  split at hz
  ·exact hz
  ·cases hz
 ·have hz : (if z = s ∨ z = l ∨ z = tL then _ else none) ≠ none := hz
  split at hz
  ·exact hz
  ·exact absurd rfl hz
 ·rw [List.mem_singleton.mp hp]
  exact LamX.TabS.nil e3
 ·show (if z = s ∨ z = l ∨ z = tL then _ else none) ≠ none
  rcases hz with e | e | ⟨q', hq⟩
  ·rw [if_pos (.inl e), e, e1]; simp
  ·rw [if_pos (.inr (.inl e)), e, e2]; simp
  ·have e : z = tL := congrArg Prod.fst (List.mem_singleton.mp hq)
   rw [if_pos (.inr (.inr e)), e, e3]; simp
 ·obtain ⟨rfl, h2⟩ := hσ i d hi
  exact ⟨_, h2, .ref s⟩
theorem enter {c : Cn} {ts : TS} {ς : Sta} {Ψ : Psi} {σ : L2.St} {k h : Hp} {E1 : Ends} (w : WS c ts ς Ψ) (S : SR c ς σ k h) (e : EndOk c k Ψ E1) : ts E1 σ h := w σ k h S E1 e
abbrev pickS : Spc := drawSpc (fun as b => ∃ l : List D, as = [.lst l] ∧ 0 < l.length ∧ l.length ≤ 1000000 ∧ b ≤ 1000000000000) (fun as b d b' => ∃ l : List D, as = [.lst l] ∧ d ∈ l ∧ b' = b + 1)
section
variable {c : Cn} {ς : Sta} {Φ : D → Sta → Prop} {s l : Addr} {E : XK}
theorem we_pick {j : Nat} {te : TE} (V : SubR c (strm s l)) (h0 : ς.δ[j]? = some (some (.ref s))) (h : WE c te ς fun d ς1 => ∃ ll, d = .lst ll ∧ 0 < ll.length ∧ ll.length ≤ 1000000 ∧ ς1.b ≤ 1000000000000 ∧ ∀ x ∈ ll, Φ x { ς1 with b := ς1.b + 1 }) :
  WE c (tCall (SpS c.K 2 pickS) [] E (tCons (tVar j) (tCons te tNil))) ς Φ := by
 refine we_callR V xok0 (wl_cons (we_var h0 (wl_cons fun σ k hh S Q z => h σ k hh S Q fun v k' h' d ς' S' e r ⟨ll, ed, h1, h2, h3, h4⟩ => z v k' h' d ς' S' e r (wl_nil ⟨rfl, ⟨s, l, _, rfl, rfl, ll, by rw [ed], h1, h2, h3⟩, ?_, fun _ _ _ _ z => z⟩))))
 rintro d' b ⟨a, as, e, ll', e2, x1, rfl⟩
 cases e
 subst ed
 cases e2
 exact h4 d' x1
end
end DL
namespace DL
open PySem PySem.Spec PyProof.Rows L2 DX
section
variable {c : Cn} {ς : Sta} {Ψ : Psi}
theorem ws_cut {a t : TS} (M : Sta → Prop) (h1 : WS c a ς { Ψ with nx := M }) (h2 : ∀ ς', M ς' → WS c t ς' Ψ) : WS c (tSeq a t) ς Ψ := ws_seq (ws_mono h1 (fun ς' z => h2 ς' z) (fun _ _ z => z) (fun _ z => z) fun _ z => z)
end
end DL
namespace DL
open PySem PySem.Spec PyProof.Rows L2 DX
def law_δ (st : Addr) (n : Nat) : List (Option D) := none :: some (.ref st) :: List.replicate n none
theorem law_slots {a st : Addr} {N : List Str} {n : Nat} (hN : N.length = n + 2) : (∀ (i : Nat) (d : D), (law_δ st n)[i]? = some (some d) → d = .ref st ∧ ((L2.start N [.ref a]).set 1 (some (V.ref st)))[i]? = some (some (V.ref st))) ∧ (law_δ st n).length = ((L2.start N [.ref a]).set 1 (some (V.ref st))).length := by
 have hlen : (L2.start N [V.ref a]).length = n + 2 := by
  unfold L2.start
  simp
  omega
 refine ⟨fun i d hi => ?_, by unfold law_δ; rw [List.length_set, hlen]; simp⟩
 match i, hi with
 | 0, hi => cases hi
 | 1, hi =>
  cases hi
  exact ⟨rfl, by rw [List.getElem?_set_self (by rw [hlen]; omega)]⟩
 | i + 2, hi =>
  have hi : (List.replicate n (none : Option D))[i]? = some (some d) := hi
  rw [List.getElem?_replicate] at hi
  split at hi <;> cases hi
end DL
set_option Elab.async false
set_option linter.all false
set_option maxRecDepth 100000
set_option maxHeartbeats 4000000
namespace DL
open PySem PySem.Spec PyProof.Rows L2
section
variable {X : Cx} {E : XK} {x m : Str} {C : Addr} {k j : Nat} {sp : Sp} {e o : Expr} {es : List Expr} {t : TA} {to : TE} {p apos pos : Pos}
end
section
variable {X : Cx} {E : XK} {C : Addr} {k j : Nat} {sp : Sp}
def rEqI (K : PySem.W.Frag) (C : Addr) (sp : Sp) (E : XK) : R2 := fun x y H Q => ∃ a dx fs tb, x = .ref a ∧ H a = some (.ins C dx fs) ∧ TyX K H y tb ∧ PySem.W.notFirst K C tb = true ∧ sp [x, y] H Q E
theorem op_eqI (c : MetX X.prog X.w X.K X.mg X.base k C "__eq__" sp) (hr : Room j X.A) (hk : k ≤ j) (hx : Passes (L2.CX X.prog X.w) X E) : OpR X (compareOp .Eq) (rEqI X.K C sp E) := by
 intro pins s σ H x y v u Q I rx ry h
 obtain ⟨f, fd, ps, cl, hm, F, hb⟩ := c.ex
 obtain ⟨a, dx, fs, tb, rfl, ha, ty, hn, q⟩ := h
 cases (show v = Value.ref a from rx)
 obtain ⟨mA, O, _⟩ := ins_get I.hok ha
 obtain ⟨od, J, _⟩ := O.look
 obtain ⟨Pk, Z, pz, _⟩ := kit_of I ry ty
 obtain ⟨m, hF⟩ := I.fr
 refine PySem.W.cmp_K (op := .Eq) (tb := tb) hr.units0 hF I.ok.mod.kin J (Z.ty _ _ I.kIn pz) hn hm.at_ hm.fn ?_
 refine wpAny_mono (run_fn (us := [.ref a, u]) (vs := [.ref a, y]) F (hr.mono hk) hb .nil hx I (.cons rfl (.cons ry .nil)) q) (fun w s' z => ?_) fun _ _ x => x
 obtain ⟨z', H', I', rz, qz⟩ := z
 exact SlX.cmpback rz ⟨z', H', I', rz, qz⟩
structure NeC (K : PySem.W.Frag) (C : Addr) : Prop where
 ex : ∃ nm q N bs sn sub ab col dd k0 k1 k2 k3 k5 newId, K.lookup C = some (excClassObj nm q C N bs [.type "object"] true sn sub ab col dd k0 k1 k2 k3 k5 newId) ∧ PySem.W.nsOkIn K N = true ∧ PySem.W.nsIn K N "__ne__" = some none ∧ ∃ f, PySem.W.nsIn K N "__eq__" = some (some (.ref f)) ∧ PySem.W.findIn K (.ref C) "__eq__" = some (some (.ref f)) ∧ ∃ oc, K.lookup f = some oc ∧ oc.cls = .type "function"
theorem ns_at {K : PySem.W.Frag} {h : Heap} {N : Addr} {x : Str} {v : Value} (X : K.In h) {m : Str → Option Value} (G : h.Ns N m) (e : PySem.W.nsIn K N x = some (some v)) : m x = some v := by
 obtain ⟨o, es, ep, ho, hd, _, hf⟩ := G
 unfold PySem.W.nsIn at e
 split at e
 ·rename_i ho2
  have e2 := X _ _ ho2
  rw [ho] at e2
  cases e2
  cases hd
  split at e
  ·rename_i en he
   cases e
   rw [← hf]
   unfold nsFind findBy
   rw [← Array.find?_toList, he]
   rfl
  ·split at e <;> cases e
 ·cases e
end
end DL
namespace DK
open PySem PySem.Spec PyProof.Rows L2 DL
structure Of (X : Cx) (P : Program) (w : World) (K : PySem.W.Frag) (mg : Str → Option Value) (base : Heap) (A : Around) : Prop where
 p : X.prog = P
 w : X.w = w
 k : X.K = K
 m : X.mg = mg
 b : X.base = base
 a : X.A = A
section
variable {X : Cx} {P : Program} {w : World} {K : PySem.W.Frag} {mg : Str → Option Value} {base : Heap} {A : Around} {E : XK} {C : Addr} {k j : Nat} {sp : Sp}
theorem op_eqI (c : MetX P w K mg base k C "__eq__" sp) (hr : Room j A) (hk : k ≤ j) (hx : Passes (L2.CX X.prog X.w) X E) (o : Of X P w K mg base A := by exact ⟨rfl, rfl, rfl, rfl, rfl, rfl⟩) : OpR X (compareOp .Eq) (rEqI K C sp E) := by
 obtain ⟨rfl, rfl, rfl, rfl, rfl, rfl⟩ := o
 exact DL.op_eqI c hr hk hx
end
end DK
set_option Elab.async false
set_option linter.all false
set_option maxRecDepth 100000
set_option maxHeartbeats 4000000
namespace DE
open PySem
open Sem (wp)
open AutoSeq1 (wpAny_loadPart')
abbrev itO (l : Addr) : Obj := { cls := .type "tuple_iterator", data := .fields #[.ref l, .int 0 0] }
abbrev enO (i : Addr) : Obj := { cls := .type "enumerate", data := .fields #[.none, .bool false, .ref i, rawInt 0, .none, .none] }
theorem new_enumT (l : Addr) (ws : Array Value) : Meets (Builtin.«enumerate.__new__» ⟨[.type "enumerate", .ref l], []⟩) (fun _ R s => s.heap.IsTuple l ws ∧
  R (.ok (.ret (.ref (s.heap.push (itO l)).objs.size))) { s with heap := (s.heap.push (itO l)).push (enO s.heap.objs.size) }) :=
 .of_wp fun prog w A R s h => by
  obtain ⟨hp, g, d, tk, os⟩ := s; obtain ⟨tl, h⟩ := h
  have sub := sub_enumerate
  have tl : Heap.IsTuple hp l ws := tl
  have go : ∀ {A' : Around} {E : Value → Shared → Prop} {Q : Value → Shared → Prop}, Q (.ref hp.objs.size) ⟨hp.push (itO l), g, d, tk, os⟩ → wpAny (model prog w) A' (pyIter (.ref l)) Q E ⟨hp, g, d, tk, os⟩ :=
   fun q => wpAny_pyIter_tuple tl q
  wp_walk using go
  refine wpAny_stack_any fun st => wpAny_pure ?_
  split
  ·rename_i c _ _ _ _ _
   cases (c == Value.type "enumerate")
   ·wp_walk using go
    exact ⟨_, rfl, h⟩
   ·wp_walk using go
    exact ⟨_, rfl, h⟩
  ·wp_walk using go
   exact ⟨_, rfl, h⟩
section
variable {prog : Program} {w : World} {A : Around} {E : Value → Shared → Prop} {s : Shared}
theorem call_enumT {l : Addr} {ws : Array Value} {Q : Value → Shared → Prop} (tl : s.heap.IsTuple l ws)
  (q : ∀ h', IsEnum h' (s.heap.objs.size + 1) s.heap.objs.size 0 .none → h'.IsTupleIter s.heap.objs.size l 0 → (∀ b o, s.heap.get? b = some o → h'.get? b = some o) → Q (.ref (s.heap.objs.size + 1)) { s with heap := h' }) :
  wpAny (model prog w) A (call (.type "enumerate") [.ref l]) Q E s := by
 refine callType_new F.called_enumerate (by decide) (F.typeCall_enumerate_1 _) (F.newCall_enumerate_1 _) (fun obj => F.args_object_init_2 obj _) F.entry_enumerate_new (new_enumT l ws) ⟨tl, ?_⟩
 have z : (s.heap.push (itO l)).objs.size = s.heap.objs.size + 1 := Heap.size_push ..
 show _ ∧ _
 rw [z]
 have he : IsEnum ((s.heap.push (itO l)).push (enO s.heap.objs.size)) (s.heap.objs.size + 1) s.heap.objs.size 0 .none := by
  have y := Heap.get?_push_size (s.heap.push (itO l)) (o := enO s.heap.objs.size) rfl
  rw [z] at y
  exact y
 exact ⟨⟨_, he, rfl⟩, q _ he ⟨_, Heap.get?_push_of_some _ (Heap.get?_push_size _ rfl), rfl, rfl⟩ fun b o x => Heap.get?_push_of_some _ (Heap.get?_push_of_some _ x)⟩
end
end DE
namespace L2
open PySem PySem.Spec PyProof.Rows
def IteT (K : PySem.W.Frag) (a : Addr) : It where
 go := fun i H => ∃ (l : List V) (y : V), SqT K H a l ∧ l[i]? = some y
 yld := fun i H v H' => ∃ T y, v = .ref T ∧ H T = none ∧ H' = upd H T (.tup [.int (i : Nat), y]) ∧ ∀ l, SqT K H a l → l[i]? = some y
 stop := fun i H => ∃ l : List V, SqT K H a l ∧ l.length = i
theorem turn_enT {P : Program} {w : World} {K : PySem.W.Frag} {elts : List Expr} {kk : Nat} {tpos : Pos} (a e it : Addr) :
  Turn P w K (.Tuple elts kk tpos) (IteT K a) [e, it] e (fun i h => (∃ old, IsEnum h e it ((i : Nat) : Int) old) ∧ h.IsTupleIter it a i ∧ e ≠ it ∧ a ≠ it ∧ a ≠ e) where
 mem := List.mem_cons_self
 obj := fun i h ⟨⟨old, y⟩, ⟨o, ho, _, hd⟩, _⟩ b hb => by
  rcases List.mem_cons.mp hb with z | z
  ·subst z
   exact ⟨_, y, fun v q => nomatch q⟩
  ·have z := List.mem_singleton.mp z
   subst z
   exact ⟨o, ho, fun v q => by rw [hd] at q; cases q⟩
 keep := fun i h h' ⟨⟨old, y⟩, hi, ne⟩ k => ⟨⟨old, k e (by simp) _ y⟩, hi.at fun o q => k it (by simp) o q, ne⟩
 item := by
  intro X hP hw hK hc i pins s σ H E I hf st hg
  subst hP hw hK
  obtain ⟨⟨old, he⟩, hi, n1, n2, n3⟩ := st
  obtain ⟨l, y, hq, hy⟩ := hg
  obtain ⟨ws, rv, tp, _⟩ := I.tuple hq
  obtain ⟨u, hu, ru⟩ := rv.get hy
  have le := Heap.lt_size he
  have li : it < s.heap.objs.size := by obtain ⟨_, q, _⟩ := hi; exact Heap.lt_size q
  have hlt : i < ws.toArray.size := by
   rw [List.size_toArray]
   exact (List.getElem?_eq_some_iff.mp hu).1
  refine wpAny_pyNext_enum_itemC (Draws.tuple (A := X.A.in1) (I.ok.hd hc) it a n2 ws.toArray) he ⟨hi, tp⟩ hlt n1 (by simp [n1, Ne.symm n3]) fun x h' tk hx ho hst hT _ hk => ?_
  have ex : x = u := by
   have hx : ws.toArray[i]? = some x := hx
   rw [List.getElem?_toArray, hu] at hx
   exact (Option.some.inj hx).symm
  subst ex
  refine ⟨_, rfl, wpAny_letOwnedTupleGo_enum (s := { s with heap := h', toks := tk + 1 }) ho fun h2 he2 sb => ?_⟩
  have hT2 := (sb.2 _ (Nat.ne_of_gt le)).trans hT
  have new : ObjOk X.prog X.w (upd H s.heap.objs.size (.tup [.int (i : Nat), y])) h2 s.heap.objs.size (.tup [.int (i : Nat), y]) :=
   ⟨by show 2 ≤ sizeLine; decide, [.int i tk, x], .cons ⟨_, rfl⟩ (.cons ru .nil), ⟨_, hT2, rfl, _, rfl⟩⟩
  have I1 : Inv X pins σ (upd H s.heap.objs.size (.tup [.int (i : Nat), y])) { s with heap := h2, toks := tk + 1 } :=
   I.turnedNew (ch := [e, it]) (fun b ob hb q => by
    have b1 : b ≠ e := fun z => hb (by rw [z]; exact List.mem_cons_self)
    have b2 : b ≠ it := fun z => hb (by rw [z]; simp)
    exact (sb.2 b b1).trans (hk b ob b1 b2 q)) hf (Nat.le_refl _) new
  refine ⟨.ref s.heap.objs.size, _, I1, rfl, ⟨_, y, rfl, I.hok.fresh (Nat.le_refl _), rfl, fun l' hl => by rw [I.tuple_inj hl hq]; exact hy⟩, ⟨⟨x, ?_⟩, hst.1.at fun o q => (sb.2 it (Ne.symm n1)).trans q, n1, n2, n3⟩, fun b hb => ?_⟩
  ·rw [show ((i + 1 : Nat) : Int) = (i : Int) + 1 by omega]
   exact he2
  ·have lb : b < s.heap.objs.size := by
    rcases List.mem_cons.mp hb with z | z
    ·rw [z]; exact le
    ·rw [List.mem_singleton.mp z]; exact li
   rw [upd_ne (Nat.ne_of_lt lb)]
   exact (hf b hb).1
 done := by
  intro X hP hw hK hc i pins s σ H E I hf st hg
  subst hP hw hK
  obtain ⟨⟨old, he⟩, hi, n1, n2, n3⟩ := st
  obtain ⟨l, hq, hl⟩ := hg
  obtain ⟨ws, rv, tp, _⟩ := I.tuple hq
  obtain ⟨f0, f1, f2, f3, f4, f5⟩ := hf it (by simp)
  have hz := rv.length
  have e : i = ws.toArray.size := by rw [List.size_toArray, ← hz, hl]
  subst e
  exact wpAny_pyNext_enum_endD (Draws.tuple (A := X.A.in1) (I.ok.hd hc) it a n2 ws.toArray) he ⟨hi, tp⟩ fun h' eb => ⟨rfl, I.turned (t' := s.toks) (fun b o hb q => eb b o hb q) f0 f1 f3 f4 f5⟩
 self := fun A i s Q E ⟨⟨_, y⟩, _⟩ h => wpAny_pyIter_enum y h
def iEnum2 (K : PySem.W.Frag) (ta : TA) : TI := fun σ H R => ta σ H fun vs H1 => (∃ a xs, vs = [.ref a] ∧ SqL K H1 a xs ∧ R (Ite K a) H1) ∨ ∃ a xs, vs = [.ref a] ∧ SqT K H1 a xs ∧ R (IteT K a) H1
theorem pi_enum2 {X : Cx} {e : Expr} {ta : TA} {p pos tpos : Pos} {elts : List Expr} {kk : Nat} (hg : Gl X "enumerate") (hm : X.mg "enumerate" = none) (ha : PA X [e] ta) (hs : starEach [e] X.env = [(false, eval e X.env)] := by rfl) :
  PI X (.Tuple elts kk tpos) (.Call (.Name "enumerate" p) [e] [] pos) (iEnum2 X.K ta) := by
 refine ⟨fun pins s σ H R I h => ?_⟩
 refine Call_ (ld_blt I hg hm boot_enumerate (PyProof.Rows.callWith_type1 (thn (ha.run pos pins s σ H _ I h) fun us s1 ⟨vs, H1, I1, r1, q1⟩ => ?_) hs rfl))
 have fresh : ∀ b ∈ [s1.heap.objs.size + 1, s1.heap.objs.size], s1.heap.objs.size ≤ b := fun b hb => by
  rcases List.mem_cons.mp hb with z | z
  ·rw [z]; exact Nat.le_add_right _ _
  ·rw [List.mem_singleton.mp z]; exact Nat.le_refl _
 rcases q1 with ⟨a, xs, rfl, hq, q⟩ | ⟨a, xs, rfl, hq, q⟩
 ·cases r1 with
  | cons r rr =>
   cases rr
   cases r
   obtain ⟨ws, rv, tp, _⟩ := I1.list hq
   refine call_enumerate_list tp.isList fun h' he hi hsz hk => wpAny_pyIter_enum he ?_
   exact ⟨_, [s1.heap.objs.size + 1, s1.heap.objs.size], _, _, H1, rfl, I1.kept (t' := s1.toks) hk, turn_enum a (s1.heap.objs.size + 1) s1.heap.objs.size, ⟨⟨.none, he⟩, hi, Nat.succ_ne_self _⟩, fun b hb => I1.fpOk (fresh b hb) (I1.hok.fresh (fresh b hb)), q⟩
 ·cases r1 with
  | cons r rr =>
   cases rr
   cases r
   obtain ⟨ws, rv, tp, _⟩ := I1.tuple hq
   have la : a < s1.heap.objs.size := by obtain ⟨o, y, _⟩ := tp; exact Heap.lt_size y
   refine DE.call_enumT tp fun h' he hi hk => wpAny_pyIter_enum he ?_
   exact ⟨_, [s1.heap.objs.size + 1, s1.heap.objs.size], _, _, H1, rfl, I1.kept (t' := s1.toks) hk, turn_enT a (s1.heap.objs.size + 1) s1.heap.objs.size, ⟨⟨.none, he⟩, hi, Nat.succ_ne_self _, Nat.ne_of_lt la, Nat.ne_of_lt (Nat.lt_succ_of_lt la)⟩, fun b hb => I1.fpOk (fresh b hb) (I1.hok.fresh (fresh b hb)), q⟩
end L2
namespace DL
open PySem PySem.Spec PyProof.Rows L2
section
variable {c : Cn} {ς : Sta}
theorem wi_enumL {ta : TA} {Φ : List D → Sta → Prop} (h : WL c ta ς fun ds ς1 => ∃ l, ds = [.lst l] ∧ Φ (enumD l) ς1) : WI c (iEnum2 c.K ta) ς Φ := fun σ k hh S R z =>
 h σ k hh S _ fun vs k1 h1 ds ς1 S1 e1 r1 ⟨l, ed, q⟩ => by
  subst ed
  cases r1 with
  | cons r1 r2 =>
   cases r2
   cases r1 with
   | lst ek er =>
    rename_i a vs
    refine .inl ⟨a, vs, rfl, SqL.of (S1.kh _ _ ek), z _ k1 h1 _ ς1 S1 e1 ⟨fun i h hi ⟨e, _⟩ => ?_, fun h ⟨e, _⟩ => ⟨vs, SqL.of (e _ _ ek), ?_⟩, fun i h x h' d ed y kc e1 ⟨e2, _⟩ => ?_⟩ q⟩
    ·have hv : i < vs.length := by rw [er.length]; unfold enumD at hi; rw [List.length_mapIdx] at hi; exact hi
     exact ⟨vs, vs[i], SqL.of (e _ _ ek), by simp [hv]⟩
    ·unfold enumD
     rw [List.length_mapIdx, er.length]
     exact Nat.le_refl _
    ·obtain ⟨T, u, rfl, nT, rfl, y⟩ := y
     obtain ⟨x, hx, rfl⟩ := enumD_get ed
     obtain ⟨u', hu, ru⟩ := er.get hx
     have := y vs (SqL.of (e2 _ _ (e1 _ _ ek)))
     rw [hu] at this
     cases this
     have g : Grow No kc h (upd kc T (.tup [.int (i : Nat), u])) (upd h T (.tup [.int (i : Nat), u])) := Grow.new e2 nT (by nofun)
     exact ⟨_, g, .tup (.inl (.inl upd_same)) (.cons (.int _) (.cons (ru.mono (e1.trans g.kk)) .nil))⟩
end
end DL
namespace DK
open PySem PySem.Spec PyProof.Rows L2 DL
theorem pi_enum2 {X : Cx} {K : PySem.W.Frag} {e : Expr} {ta : TA} {p pos tpos : Pos} {elts : List Expr} {kk : Nat} (hg : Gl X "enumerate") (hm : X.mg "enumerate" = none) (ha : PA X [e] ta) (h : X.K = K := by rfl) (hs : starEach [e] X.env = [(false, eval e X.env)] := by rfl) :
  PI X (.Tuple elts kk tpos) (.Call (.Name "enumerate" p) [e] [] pos) (iEnum2 K ta) := by subst h; exact L2.pi_enum2 hg hm ha hs
end DK
set_option Elab.async false
set_option linter.all false
set_option maxRecDepth 100000
set_option maxHeartbeats 4000000
namespace DL
open PySem PySem.Spec PyProof.Rows L2 DX
structure CK (K : PySem.W.Frag) (C : Addr) : Prop where
 ins : C8.InsC K C
 no : ∀ s, Knd s → PySem.W.kitOne K (.type s) (.ref C) = some false
 nf : ∀ s, Knd s → PySem.W.notFirst K C (.type s) = true
 sf : PySem.W.selfFirst K C = true
 up : ∀ s, Knd s → PySem.W.kitOne K (.ref C) (.type s) = some false
theorem nf_self {K : PySem.W.Frag} {C : Addr} : PySem.W.notFirst K C (.ref C) = true := by
 unfold PySem.W.notFirst
 simp
theorem Rep.objTy {K : PySem.W.Frag} {k h : Hp} {v : V} {C : Addr} {ns : List Str} {ds : List D} (ck : CK K C) (e : Same k h) (r : Rep K k v (.obj C ns ds)) : TyX K h v (.ref C) := by
 cases r with
 | obj ek _ _ => exact .base (.ins (e _ _ ek) ck.ins.cl ck.ins.ha ck.ins.hn ck.ins.htk ck.ins.hm)
section
variable {K : PySem.W.Frag} {Φ' : D → Prop}
inductive Opd (C : Addr) : D → Prop
 | obj (ns : List Str) (ds : List D) : Opd C (.obj C ns ds)
 | ty {d : D} (h : (tyN d).isSome = true) : Opd C d
theorem rd_eqI {C : Addr} {ns : List Str} {fs : List D} {d : D} {g : List D → Option Out} {E : XK} {b : Bool} {Φ : D → Prop} (ck : CK K C) (hd : Opd C d) (hg : g [.obj C ns fs, d] = some (.ret (.bl b))) (q : Φ (.bl b)) : RD K (rEqI K C (SpS K 2 (spcF g)) E) (.obj C ns fs) d Φ := fun k h v1 v2 e r1 r2 Q z => by
 have rr : RepL K k [v1, v2] [.obj C ns fs, d] := .cons r1 (.cons r2 .nil)
 cases r1 with
 | obj ek en er =>
  have sp : SpS K 2 (spcF g) [.ref _, v2] h Q E := ⟨rfl, Res.none, k, _, 0, rr, e, trivial, fun a z => z.elim, ⟨_, hg⟩, fun d' b' hq v k' h' g' _ r => by
   have y := hg.symm.trans hq.1
   cases y
   exact z v k' h' _ g' r q, fun C' ns' fs' b' hq => by
   have y := hg.symm.trans hq.1
   cases y⟩
  cases hd with
  | obj ns' ds' => exact ⟨_, _, _, _, rfl, e _ _ ek, r2.objTy ck e, nf_self, sp⟩
  | ty ht =>
   obtain ⟨s, hs⟩ := Option.isSome_iff_exists.mp ht
   exact ⟨_, _, _, _, rfl, e _ _ ek, r2.tyX e hs, ck.nf s (tyN_knd hs), sp⟩
end
section
variable {c : Cn} {ς : Sta} {Φ : D → Sta → Prop} {Ψ : Psi}
inductive OutI where
 | ok (ns : List Str) (fs : List D)
 | exc (C : Addr) (ns : List Str) (fs : List D)
def spcI (g : List D → Option OutI) : SpcI where
 pre := fun ds => ∃ o, g ds = some o
 post := fun ds ns fs => g ds = some (.ok ns fs)
 exc := fun ds C ns fs => g ds = some (.exc C ns fs)
inductive OutJ (C0 : Addr) (Φ : D → Sta → Prop) (X : XT) (ς : Sta) : OutI → Prop
 | ok {ns : List Str} {fs : List D} (q : Φ (.obj C0 ns fs) ς) : OutJ C0 Φ X ς (.ok ns fs)
 | exc {C : Addr} {ns : List Str} {fs : List D} (q : X C ns fs ς) : OutJ C0 Φ X ς (.exc C ns fs)
theorem we_makeF {C : Addr} {n : Nat} {g : List D → Option OutI} {E : XK} {ta : TA} {X : XT} (hE : XOk c E X) (h : WL c ta ς fun ds ς1 => ds.length + 1 = n ∧ ∃ o, g ds = some o ∧ OutJ C Φ X ς1 o) : WE c (tMake C (SpI c.K n C (spcI g)) [] E ta) ς Φ := by
 refine we_make hE fun σ k hh S Q z => h σ k hh S Q fun vs k' h' ds ς' S' e r ⟨h1, o, h2, h3⟩ => z vs k' h' ds ς' S' e r ⟨h1, ⟨o, h2⟩, fun ns fs q => ?_, fun C ns fs q => ?_⟩
 ·have e := h2.symm.trans q
  cases e
  cases h3 with
  | ok q => exact q
 ·have e := h2.symm.trans q
  cases e
  cases h3 with
  | exc q => exact q
theorem we_fld1 {te : TE} {f : Str} (h : WE c te ς fun d ς1 => ∃ C ns ds d', d = .obj C ns ds ∧ (Cls c.K C ∧ NoAttr c.K C f) ∧ lookD f ns ds = some d' ∧ Φ d' ς1) : WE c (tFld c.K te f) ς Φ :=
 we_fld fun σ k hh S Q z => h σ k hh S Q fun v k' h' d ς' S' e r ⟨C, ns, ds, d', h1, ⟨h2, h3⟩, h4, q⟩ => z v k' h' d ς' S' e r ⟨C, ns, ds, d', h1, h2, h3, h4, q⟩
end
end DL
namespace DL
open PySem PySem.Spec PyProof.Rows L2 DX
end DL
set_option Elab.async false
set_option linter.all false
set_option maxRecDepth 100000
set_option maxHeartbeats 4000000
namespace DL
open PySem PySem.Spec PyProof.Rows L2 DX
structure HR (c : Cn) (o : Addr) (xs : List Int) : Prop where
 at_ : c.h0 o = some (.lst (xs.map V.int))
 nw : ¬ c.R.W o
 kn : c.k0 o = none
theorem HR.now {c : Cn} {o : Addr} {xs : List Int} {ς : Sta} {σ : L2.St} {k h : Hp} (r : HR c o xs) (S : SR c ς σ k h) : h o = some (.lst (xs.map V.int)) := S.g.hh _ _ r.nw r.at_
theorem HR.no {c : Cn} {o : Addr} {xs : List Int} {ς : Sta} {σ : L2.St} {k h : Hp} (r : HR c o xs) (S : SR c ς σ k h) : k o = none := S.g.dj o r.kn (by rw [r.at_]; simp)
theorem HR.st {c : Cn} {o : Addr} {xs : List Int} {k h : Hp} (r : HR c o xs) (s : StK c k h) : h o = some (.lst (xs.map V.int)) := by
 obtain ⟨_, ς, σ, k', S, _⟩ := s
 exact r.now S
section
variable {c : Cn} {ς : Sta} {Φ : D → Sta → Prop} {Ψ : Psi}
end
def spOr (s1 s2 : Sp) : Sp := fun vs H Q E => s1 vs H Q E ∨ s2 vs H Q E
section
variable {P : Program} {w : World} {K : PySem.W.Frag} {mg : Str → Option Value} {base : Heap}
end
section
variable {c : Cn} {ς : Sta} {Φ : D → Sta → Prop} {Ψ : Psi}
theorem we_callFl {n : Nat} {g : List D → Option Out} {s2 : Sp} {E : XK} {ta : TA} {X : XT} (hE : XOk c E X) (h : WL c ta ς fun ds ς1 => ds.length = n ∧ ∃ o, g ds = some o ∧ OutP Φ X ς1 o) : WE c (tCall (spOr (SpS c.K n (spcF g)) s2) [] E ta) ς Φ := fun σ k hh S Q z =>
 h σ k hh S _ fun vs k1 h1 ds ς1 S1 e1 r1 ⟨l, o, h2, h3⟩ => by
  refine .inl ?_
  rw [List.append_nil]
  refine ⟨by rw [r1.length, l], Res.none, k1, ds, 0, r1, S1.kh, trivial, fun a z => z.elim, ⟨o, h2⟩, fun d b q v k' h' g _ r => ?_, fun C ns fs b q dd ws k' h' g _ e r => ?_⟩
  ·have e := h2.symm.trans q.1
   cases e
   cases h3 with
   | ret q => exact z v k' h' d ς1 (S1.grow g) (e1.trans g.kk) r q
  ·have e' := h2.symm.trans q.1
   cases e'
   cases h3 with
   | exc q => exact hE C ns fs dd ws σ k' h' ς1 (S1.grow g) e r q
def Stands (c : Cn) (ς : Sta) (o : Addr) (xs : List Int) : Prop := HR c o xs ∨ ∃ j : Nat, ς.m[j]? = some (o, MO.lst (xs.map D.int))
theorem Stands.now {o : Addr} {xs : List Int} {σ : L2.St} {k h : Hp} (r : Stands c ς o xs) (S : SR c ς σ k h) : h o = some (.lst (xs.map V.int)) := by
 rcases r with r | ⟨j, ej⟩
 ·exact r.now S
 ·obtain ⟨a1, a2, vs, hv, rv⟩ := S.at ej
  rw [← rv.ints]
  exact hv
theorem Stands.no {o : Addr} {xs : List Int} {σ : L2.St} {k h : Hp} (r : Stands c ς o xs) (S : SR c ς σ k h) : k o = none := by
 rcases r with r | ⟨j, ej⟩
 ·exact r.no S
 ·exact (S.at ej).1
end
end DL
set_option Elab.async false
set_option linter.all false
set_option maxRecDepth 100000
set_option maxHeartbeats 4000000
namespace DL
open PySem PySem.Spec PyProof.Rows L2 DX
section
variable {P : Program} {w : World} {K : PySem.W.Frag} {mg : Str → Option Value} {base : Heap}
end
section
variable {c : Cn} {ς : Sta} {Φ : D → Sta → Prop} {Ψ : Psi}
theorem made_back {x dx C : Addr} {k1 h1 k' h' : Hp} (nx : h1 x = none) (ndx : h1 dx = none) (g : Grow (initR x).W k1 (upd (upd h1 dx (.own x)) x (.ins C dx [])) k' h') : Grow No k1 h1 k' h' := by
 refine ⟨g.kk, g.kh, fun a o _ q => ?_, fun a q => ?_, fun a q n => g.dj a q ?_, g.kt⟩
 ·have na : a ≠ x := ne_of_none q nx
  exact g.hh a o na (by rw [upd_ne na, upd_ne (ne_of_none q ndx)]; exact q)
 ·refine g.hd a ?_
  have na : a ≠ x := fun e => q (by rw [e]; exact nx)
  have nd : a ≠ dx := fun e => q (by rw [e]; exact ndx)
  rw [upd_ne na, upd_ne nd]
  exact q
 ·have na : a ≠ x := fun e => n (by rw [e]; exact nx)
  have nd : a ≠ dx := fun e => n (by rw [e]; exact ndx)
  rw [upd_ne na, upd_ne nd]
  exact n
theorem made_known {x dx C : Addr} {k1 h1 k' h' : Hp} {ws : List (Str × V)} (kx : k1 x = none) (nx : h1 x = none) (ndx : h1 dx = none) (g : Grow (initR x).W k1 (upd (upd h1 dx (.own x)) x (.ins C dx [])) k' h') (ex : h' x = some (.ins C dx ws)) :
  Same k' (upd k' x (.ins C dx ws)) ∧ Grow No k1 h1 (upd k' x (.ins C dx ws)) h' := by
 have g1 := made_back nx ndx g
 have kx' : k' x = none := g.dj x kx (by rw [upd_same]; simp)
 have kk : Same k' (upd k' x (.ins C dx ws)) := same_new kx'
 refine ⟨kk, g1.kk.trans kk, fun a o q => ?_, g1.hh, g1.hd, fun a q n => ?_, fun a ps q => ?_⟩
 ·by_cases ea : a = x
  ·rw [ea, upd_same] at q
   rw [ea, ex]
   exact q
  ·rw [upd_ne ea] at q
   exact g1.kh _ _ q
 ·have na : a ≠ x := fun e => n (by rw [e]; exact nx)
  rw [upd_ne na]
  exact g1.dj a q n
 ·by_cases ea : a = x
  ·rw [ea, upd_same] at q; cases q
  ·rw [upd_ne ea] at q; exact g1.kt a ps q
theorem we_makeFl {C : Addr} {n : Nat} {g : List D → Option OutI} {s2 : Sp} {E : XK} {ta : TA} {X : XT} (hE : XOk c E X) (h : WL c ta ς fun ds ς1 => ds.length + 1 = n ∧ ∃ o, g ds = some o ∧ OutJ C Φ X ς1 o) : WE c (tMake C (spOr (SpI c.K n C (spcI g)) s2) [] E ta) ς Φ := fun σ k hh S Q z =>
 h σ k hh S _ fun vs k1 h1 ds ς1 S1 e1 r1 ⟨l, o, h2, h3⟩ x dx nx ndx nex => by
  refine .inl ?_
  rw [List.append_nil]
  have kx : k1 x = none := S1.kh.free nx
  have s1 : Same k1 (upd (upd h1 dx (.own x)) x (.ins C dx [])) := S1.kh.trans ((same_new ndx).trans (same_new (by rw [upd_ne (fun e => nex e.symm)]; exact nx)))
  refine ⟨by rw [List.length_cons, r1.length, l], x, dx, vs, k1, ds, rfl, upd_same, kx, r1, s1, ⟨o, h2⟩, fun ns fs hp k' h' ws g ex en er => ⟨rfl, ?_⟩, fun C' ns fs hx dd ws k' h' g _ e r => ?_⟩
  ·obtain ⟨kk, g2⟩ := made_known kx nx ndx g ex
   have e := h2.symm.trans hp
   cases e
   cases h3 with
   | ok q => exact z (.ref x) _ h' _ ς1 (S1.grow g2) (e1.trans g2.kk) (.obj upd_same en (er.mono kk)) q
  ·have e' := h2.symm.trans hx
   cases e'
   cases h3 with
   | exc q => exact hE C' ns fs dd ws σ k' h' ς1 (S1.grow (made_back nx ndx g)) e r q
end
section
variable {c : Cn} {ς : Sta} {Φ : D → Sta → Prop} {Ψ : Psi}
end
end DL
namespace DL
open PySem PySem.Spec PyProof.Rows L2 DX
section
variable {c : Cn} {ς : Sta} {Φ : D → Sta → Prop} {s l : Addr} {E : XK}
end
end DL
set_option Elab.async false
set_option linter.all false
set_option maxRecDepth 100000
set_option maxHeartbeats 4000000
namespace DL
open PySem PySem.Spec PyProof.Rows L2 DX
section
variable {P : Program} {w : World} {K : PySem.W.Frag} {mg : Str → Option Value} {base : Heap}
end
section
variable {c : Cn} {ς : Sta} {Φ : D → Sta → Prop} {Ψ : Psi}
theorem SR.got {σ : L2.St} {k1 h1 k' h' : Hp} {b : Addr} {us : List V} {ds : List D} (S1 : SR c ς σ k1 h1) (g : Grow No k1 h1 k' h') (hb : h1 b = none) (kb : k' b = none) (eb : h' b = some (.lst us)) (r : RepL c.K k' us ds) : SR c { ς with m := (b, .lst ds) :: ς.m } σ k' h' ∧ ∀ x ∈ ς.m, x.1 ≠ b := by
 have S2 := S1.grow g
 have np : ∀ x ∈ ς.m, x.1 ≠ b := fun x hx e => (S1.m x hx).2.2.there (by rw [e]; exact hb)
 refine ⟨⟨S2.g, S2.i, S2.w, S2.s, fun x hx => ?_, ?_, S2.len, S2.kb⟩, np⟩
 ·rcases List.mem_cons.mp hx with e | hx
  ·subst e
   refine ⟨kb, ?_, ⟨us, eb, r⟩⟩
   cases y : c.h0 b with
   | none => exact .inl rfl
   | some o => exact absurd hb (S1.g.hd b (by rw [y]; simp))
  ·exact S2.m x hx
 ·rw [List.map_cons]
  refine List.nodup_cons.mpr ⟨fun hm => ?_, S1.nd⟩
  obtain ⟨x, hx, e⟩ := List.mem_map.mp hm
  exact np x hx e
theorem SR.known {σ : L2.St} {k1 h1 k' h' : Hp} {b : Addr} {us : List V} {ds : List D} (S1 : SR c ς σ k1 h1) (g : Grow No k1 h1 k' h') (hb : h1 b = none) (kb : k' b = none) (eb : h' b = some (.lst us)) (r : RepL c.K k' us ds) : SR c ς σ (upd k' b (.lst us)) h' ∧ Same k1 (upd k' b (.lst us)) ∧ Rep c.K (upd k' b (.lst us)) (.ref b) (.lst ds) := by
 have kk : Same k' (upd k' b (.lst us)) := same_new kb
 have g2 : Grow No k1 h1 (upd k' b (.lst us)) h' := by
  refine ⟨g.kk.trans kk, fun a o q => ?_, g.hh, g.hd, fun a q n => ?_, fun a ps q => ?_⟩
  ·by_cases ea : a = b
   ·rw [ea, upd_same] at q
    rw [ea, eb]
    exact q
   ·rw [upd_ne ea] at q
    exact g.kh _ _ q
  ·have na : a ≠ b := fun e => n (by rw [e]; exact hb)
   rw [upd_ne na]
   exact g.dj a q n
  ·by_cases ea : a = b
   ·rw [ea, upd_same] at q; cases q
   ·rw [upd_ne ea] at q; exact g.kt a ps q
 exact ⟨S1.grow g2, g2.kk, .lst upd_same (r.mono kk)⟩
end
end DL
set_option Elab.async false
set_option linter.all false
set_option maxRecDepth 100000
set_option maxHeartbeats 4000000
namespace DK
open PySem PySem.Spec PyProof.Rows L2
variable {X : Cx} {K : PySem.W.Frag}
end DK
namespace DL
open PySem PySem.Spec PyProof.Rows L2 DX
section
variable {c : Cn} {ς : Sta} {Φ : D → Sta → Prop} {Ψ : Psi}
end
end DL
set_option Elab.async false
set_option linter.all false
set_option maxRecDepth 100000
set_option maxHeartbeats 4000000
namespace DL
open PySem PySem.Spec PyProof.Rows L2 DX
section
variable {c : Cn} {ς : Sta} {Φ : D → Sta → Prop} {Ψ : Psi}
theorem ws_extend {j : Nat} {o : Addr} {ds : List D} {to te : TE} (hI : ∀ b h h', c.fr = false → c.R.I b h → c.R.I b h' := by first | exact (fun _ _ _ z => nomatch z) | exact (fun _ _ _ _ z => z))
  (h : WE c to ς fun d ς1 => d = .ref o ∧ (∃ ds, ς1.m[j]? = some (o, .lst ds)) ∧ WE c te ς1 fun e ς2 => ∃ es, e = .lst es ∧ ς2.m[j]? = some (o, .lst ds) ∧ ds.length + es.length ≤ sizeLine ∧ Ψ.nx { ς2 with m := ς2.m.set j (o, .lst (ds ++ es)) }) :
  WS c (tDrop (tBM c.K "list" rExtend to (tCons te tNil))) ς Ψ := fun σ k hh S E z =>
 h σ k hh S _ fun v k1 h1 d ς1 S1 e1 r1 ⟨ed, ⟨ds0, ej0⟩, q⟩ => by
  subst ed
  cases r1
  obtain ⟨_, _, vs0, hv0, _⟩ := S1.at ej0
  refine ⟨.inl ⟨rfl, vs0, SqL.of hv0⟩, q σ k1 h1 S1 _ fun y k2 h2 e ς2 S2 e2 r2 ⟨es, ee, ej, l, q2⟩ => ?_⟩
  subst ee
  cases r2 with
  | lst ek er =>
   obtain ⟨a1, a2, vs, hv, rv⟩ := S2.at ej
   refine ⟨o, _, vs, _, rfl, rfl, hv, S2.kh _ _ ek, by rw [rv.length, er.length]; exact l, ?_⟩
   exact z.nx σ k2 _ _ (S2.put (mo' := .lst (ds ++ es)) ej hI ⟨vs ++ _, upd_same, rv.append er⟩) (e1.trans e2) q2
end
section
variable {P : Program} {w : World} {K : PySem.W.Frag} {mg : Str → Option Value} {base : Heap}
end
section
variable {c : Cn} {ς : Sta} {Φ : D → Sta → Prop} {Ψ : Psi}
end
section
variable {P : Program} {w : World} {K : PySem.W.Frag} {mg : Str → Option Value} {base : Heap}
end
section
variable {c : Cn} {ς : Sta} {Φ : D → Sta → Prop} {s l : Addr} {E : XK}
end
end DL
set_option Elab.async false
set_option linter.all false
set_option maxRecDepth 100000
set_option maxHeartbeats 4000000
namespace DL
open PySem PySem.Spec PyProof.Rows L2 DX
section
variable {c : Cn} {ς : Sta} {Φ : D → Sta → Prop} {Ψ : Psi}
end
end DL
namespace DL
open PySem PySem.Spec PyProof.Rows L2 DX
section
variable {c : Cn} {ς : Sta} {Φ : D → Sta → Prop} {Ψ : Psi}
end
end DL
namespace DK
open PySem PySem.Spec PyProof.Rows L2 DL
variable {X : Cx} {K : PySem.W.Frag} {o e : Expr} {es : List Expr} {to : TE} {t : TA} {name : Str} {apos cpos : Pos} {T id : String} {r : V → List V → Hp → VK → Prop}
theorem pe_bm (pa : PlainAttrs T) (slot : Slot T name id) (hty : typeOf (.builtin id) = pure (.type "method_descriptor")) (hm : MtR X id r) (ho : PE X o to) (ha : PA X (e :: es) t) (h : X.K = K := by rfl)
  (hbase : attributeBase o name X.env (eval o X.env) = eval o X.env := by rfl)
  (hfew : ((backTo cpos (starEach (e :: es) X.env)).all (fun x => !x.1) && (backToKw cpos (keywordEach [] X.env)).all (fun x => x.1.isSome)
   && decide ((e :: es).length + ([] : List Keyword).length + (if ([] : List Keyword).isEmpty then 0 else 1) < 30)) = true := by rfl)
  (hline : (apos.endLine == cpos.line) = true := by rfl) (hs : starEach (e :: es) X.env = (false, eval e X.env) :: starEach es X.env := by rfl) (hplain : (backTo cpos (starEach es X.env)).any (·.1) = false := by rfl) :
  PE X (.Call (.Attribute o name apos) (e :: es) [] cpos) (tBM K T r to t) := by subst h; exact L2.pe_bm pa slot hty hm ho ha hbase hfew hline hs hplain
end DK
set_option Elab.async false
set_option linter.all false
set_option maxRecDepth 100000
set_option maxHeartbeats 4000000
namespace DL
open PySem PySem.Spec PyProof.Rows L2 DX
def deI (e : DictEntry) : Option (Int × Int × Int) := match e.key, e.val with
 | .int k _, .int v _ => some (e.hash, k, v)
 | _, _ => none
structure ItK (K : PySem.W.Frag) (a : Addr) (kvs : List (Int × Int)) : Prop where
 at_ : ∃ es n, K.lookup a = some ⟨.type "dict", none, .dict es n, #[]⟩ ∧ es.toList.map deI = kvs.map fun q => some (hashInt q.1, q.1, q.2)
 low : (a == sysModules) = false
theorem pairs_deI {P : Program} {w : World} : ∀ {es : List DictEntry} {kvs : List (Int × Int)}, es.map deI = kvs.map (fun q => some (hashInt q.1, q.1, q.2)) →
  ∃ vs : List (Int × Value), Pairs (intKind P w) es vs ∧ vs.map (·.1) = kvs.map (·.1) ∧ (∀ e ∈ es, ∃ k, (intKind P w).is k e.key = true ∧ e.hash = (intKind P w).hash k) ∧ ∀ k v, kvs.lookup k = some v → ∃ t, valueAt vs k = some (.int v t)
 | [], [], _ => ⟨[], .nil, rfl, fun _ h => absurd h (by simp), fun _ _ h => by cases h⟩
 | [], _ :: _, h => by cases h
 | _ :: _, [], h => by cases h
 | e :: es, q :: kvs, h => by
  obtain ⟨hs, ky, vl⟩ := e
  injection h with h1 h2
  obtain ⟨vs, p1, p2, p3, p4⟩ := pairs_deI (P := P) (w := w) h2
  unfold deI at h1
  split at h1
  ·rename_i k t v u e1 e2
   have e1 : ky = .int k t := e1
   have e2 : vl = .int v u := e2
   subst e1 e2
   have h1 := Option.some.inj h1
   obtain ⟨q1, q2⟩ := q
   have a1 : hs = hashInt q1 := congrArg Prod.fst h1
   have a2 : k = q1 := congrArg (fun z => z.2.1) h1
   have a3 : v = q2 := congrArg (fun z => z.2.2) h1
   subst a1 a2 a3
   refine ⟨(k, .int v u) :: vs, .cons (intKind_is P w k t) rfl p1, by rw [List.map_cons, List.map_cons, p2], fun e he => ?_, fun k' v' hl => ?_⟩
   ·rcases List.mem_cons.mp he with rfl | he
    ·exact ⟨k, intKind_is P w k t, rfl⟩
    ·exact p3 e he
   ·unfold valueAt
    rw [List.find?_cons]
    by_cases hk : k = k'
    ·subst hk
     rw [List.lookup_cons_self] at hl
     cases hl
     simp only [decide_true]
     exact ⟨u, rfl⟩
    ·simp only [decide_eq_false hk]
     rw [List.lookup_cons, beq_eq_false_iff_ne.mpr (Ne.symm hk)] at hl
     exact p4 k' v' hl
  ·cases h1
theorem find_keys {vs : List (Int × Value)} {i : Int} : (valueAt vs i).isSome = (vs.map (·.1)).any fun k => decide (k = i) := by
 unfold valueAt
 induction vs with
 | nil => rfl
 | cons q vs ih =>
  rw [List.find?_cons, List.map_cons, List.any_cons, ← ih]
  by_cases h : q.1 = i
  ·simp [h]
  ·simp [h]
theorem ItK.dict {P : Program} {w : World} {K : PySem.W.Frag} {h : Heap} {a : Addr} {kvs : List (Int × Int)} (c : ItK K a kvs) (I : K.In h) (nd : (kvs.map (·.1)).Nodup) :
  ∃ vs, h.DictOf (intKind P w) a vs ∧ (∀ i, (valueAt vs i).isSome = (kvs.map (·.1)).any fun k => decide (k = i)) ∧ ∀ k v, kvs.lookup k = some v → ∃ t, valueAt vs k = some (.int v t) := by
 obtain ⟨es, n, lk, hm⟩ := c.at_
 obtain ⟨vs, p1, p2, p3, p4⟩ := pairs_deI (P := P) (w := w) hm
 refine ⟨vs, ⟨_, es, n, I _ _ lk, ⟨rfl, rfl, rfl⟩, rfl, fun e he => p3 e (Array.mem_toList_iff.mpr he), p1, by rw [p2]; exact nd⟩, fun i => ?_, p4⟩
 rw [find_keys, p2]
section
variable {K : PySem.W.Frag} {Φ : D → Prop}
end
end DL
namespace DL
open PySem PySem.Spec PyProof.Rows L2 DX
section
variable {K : PySem.W.Frag} {Φ : D → Prop}
end
end DL
namespace DK
open PySem PySem.Spec PyProof.Rows L2 DL
end DK
set_option Elab.async false
set_option linter.all false
set_option maxRecDepth 100000
set_option maxHeartbeats 4000000
namespace DL
open PySem PySem.Spec PyProof.Rows L2 DX
structure HRD (c : Cn) (o : Addr) (ds : List D) : Prop where
 at_ : ∃ vs, c.h0 o = some (.lst vs) ∧ RepL c.K c.k0 vs ds
 nw : ¬ c.R.W o
 kn : c.k0 o = none
theorem HRD.now {c : Cn} {o : Addr} {ds : List D} {ς : Sta} {σ : L2.St} {k h : Hp} (r : HRD c o ds) (S : SR c ς σ k h) : ∃ vs, h o = some (.lst vs) ∧ RepL c.K k vs ds ∧ k o = none := by
 obtain ⟨vs, a1, a2⟩ := r.at_
 exact ⟨vs, S.g.hh _ _ r.nw a1, a2.mono S.g.kk, S.g.dj o r.kn (by rw [a1]; simp)⟩
section
variable {c : Cn} {ς : Sta} {Φ : D → Sta → Prop} {Ψ : Psi}
end
end DL
namespace DL
open PySem PySem.Spec PyProof.Rows L2 DX
end DL
set_option Elab.async false
set_option linter.all false
set_option maxRecDepth 100000
set_option maxHeartbeats 4000000
namespace DL
open PySem PySem.Spec PyProof.Rows L2 DX
section
variable {c : Cn} {ς : Sta} {Φ : D → Sta → Prop} {s l : Addr} {E : XK}
end
end DL
namespace DK
open PySem PySem.Spec PyProof.Rows L2 DL
end DK
set_option Elab.async false
set_option linter.all false
set_option maxRecDepth 100000
set_option maxHeartbeats 4000000
namespace DL
open PySem PySem.Spec PyProof.Rows L2 DX
section
variable {c : Cn} {ς : Sta} {Φ : D → Sta → Prop} {Ψ : Psi}
end
end DL
set_option Elab.async false
set_option linter.all false
set_option maxRecDepth 100000
set_option maxHeartbeats 4000000
namespace DL
open PySem PySem.Spec PyProof.Rows L2 DX
section
variable {c : Cn} {ς : Sta} {Φ : D → Sta → Prop} {Ψ : Psi}
end
end DL
set_option Elab.async false
set_option linter.all false
set_option maxRecDepth 100000
set_option maxHeartbeats 4000000
namespace DL
open PySem PySem.Spec PyProof.Rows L2 DX
end DL
set_option Elab.async false
set_option linter.all false
set_option maxRecDepth 100000
set_option maxHeartbeats 4000000
namespace DL
open PySem PySem.Spec PyProof.Rows L2 DX
section
variable {P : Program} {w : World} {K : PySem.W.Frag} {mg : Str → Option Value} {base : Heap}
end
section
variable {c : Cn} {ς : Sta} {Φ : D → Sta → Prop} {s l : Addr} {E : XK}
end
end DL
set_option Elab.async false
set_option linter.all false
set_option maxRecDepth 100000
set_option maxHeartbeats 4000000
namespace DL
open PySem PySem.Spec PyProof.Rows L2 DX
open PySem.W (EqTree)
open PySem.SeqAt (EqAt)
mutual
inductive TwT (K : PySem.W.Frag) (H : Hp) : Nat → V → V → Prop
 | non {n : Nat} : TwT K H n .non .non
 | bl {n : Nat} (b : Bool) : TwT K H n (.bl b) (.bl b)
 | int {n : Nat} (i : Int) : TwT K H n (.int i) (.int i)
 | str {n : Nat} (x : Str) : TwT K H n (.str x) (.str x)
 | lst {n : Nat} {a b : Addr} {xs ys : List V} : SqL K H a xs → SqL K H b ys → TwA K H n xs ys → TwT K H (n + 1) (.ref a) (.ref b)
 | tup {n : Nat} {a b : Addr} {xs ys : List V} : SqT K H a xs → SqT K H b ys → TwA K H n xs ys → TwT K H (n + 1) (.ref a) (.ref b)
 | dct {n : Nat} {a b : Addr} : H a = some (.dK []) → H b = some (.dK []) → TwT K H (n + 1) (.ref a) (.ref b)
inductive TwA (K : PySem.W.Frag) (H : Hp) : Nat → List V → List V → Prop
 | nil {n : Nat} : TwA K H n [] []
 | cons {n : Nat} {x y : V} {xs ys : List V} : TwT K H n x y → TwA K H n xs ys → TwA K H n (x :: xs) (y :: ys)
end
theorem TwA.len {K : PySem.W.Frag} {H : Hp} {n : Nat} : ∀ {xs ys : List V}, TwA K H n xs ys → xs.length = ys.length
 | _, _, .nil => rfl
 | _, _, .cons _ r => by rw [List.length_cons, List.length_cons, TwA.len r]
theorem all_rng (n : Nat) : ((List.range n).all fun _ => true) = true := by simp
theorem dk_empty {P : Program} {w : World} {H : Hp} {s : Heap} {a : Addr} (ok : ObjOk P w H s a (.dK [])) : (a == sysModules) = false ∧ ∀ (p : Program) (v : World), s.DictOf (intKind p v) a [] := by
 obtain ⟨_, ya, va, ra, da⟩ := ok
 have e : va = [] := by cases ra; rfl
 subst e
 obtain ⟨o, es, ep, h1, h2, h3, _, h5, _⟩ := da
 have ee : es.toList = [] := by
  generalize es.toList = l at h5
  cases h5
  rfl
 refine ⟨ya, fun p v => ⟨o, es, ep, h1, h2, h3, fun e he => ?_, ?_, List.nodup_nil⟩⟩
 ·have he : e ∈ es.toList := Array.mem_toList_iff.mpr he
  rw [ee] at he
  exact absurd he (by simp)
 ·rw [ee]
  exact .nil
section
variable {X : Cx} {pins : List (Addr × Obj)} {σ : L2.St} {H : Hp} {s : Shared}
mutual
theorem TwT.tree (I : Inv X pins σ H s) : ∀ {n : Nat} {x y : V} {u v : Value}, TwT X.K H n x y → RelV x u → RelV y v → ∀ (p : Program) (w : World), EqTree p w s n u v true
 | _, _, _, _, _, .non, r1, r2, p, w => by
  cases r1; cases r2
  exact .same
 | _, _, _, _, _, .bl b, r1, r2, p, w => by
  cases r1; cases r2
  exact .same
 | _, _, _, _, _, .int i, r1, r2, p, w => by
  obtain ⟨t, rfl⟩ := r1
  obtain ⟨t2, rfl⟩ := r2
  exact .leaf fun A _ => by simpa using SeqAt.EqAt.int_int (A := A) (s := s) i t i t2
 | _, _, _, _, _, .str x, r1, r2, p, w => by
  obtain ⟨t, rfl⟩ := r1
  obtain ⟨t2, rfl⟩ := r2
  exact .leaf fun A _ => by simpa using SeqAt.EqAt.str_str (A := A) (s := s) x t x t2
 | _, _, _, _, _, .lst (a := a) (b := b) h1 h2 ha, r1, r2, p, w => by
  cases r1; cases r2
  obtain ⟨its, rv, pl, _⟩ := I.list h1
  obtain ⟨its2, rv2, pl2, _⟩ := I.list h2
  by_cases e : a = b
  ·subst e; exact .same
  have hs : its.toArray.size = its2.toArray.size := by
   rw [List.size_toArray, List.size_toArray, ← rv.length, ← rv2.length]
   exact ha.len
  have t := EqTree.lists (prog := p) (w := w) (e := fun _ => true) e (PlainL.isList pl) (PlainL.isList pl2) hs fun j q1 q2 => by
   have z := TwA.trees I ha rv rv2 p w j (by simpa using q1) (by simpa using q2)
   simpa using z
  rw [all_rng] at t
  exact t
 | _, _, _, _, _, .tup (a := a) (b := b) h1 h2 ha, r1, r2, p, w => by
  cases r1; cases r2
  obtain ⟨its, rv, pl, _⟩ := I.tuple h1
  obtain ⟨its2, rv2, pl2, _⟩ := I.tuple h2
  by_cases e : a = b
  ·subst e; exact .same
  have hs : its.toArray.size = its2.toArray.size := by
   rw [List.size_toArray, List.size_toArray, ← rv.length, ← rv2.length]
   exact ha.len
  have t := EqTree.tuples (prog := p) (w := w) (e := fun _ => true) e pl pl2 fun j q1 q2 => by
   have z := TwA.trees I ha rv rv2 p w j (by simpa using q1) (by simpa using q2)
   simpa using z
  rw [all_rng, hs] at t
  simpa using t
 | _, _, _, _, _, .dct (a := a) (b := b) h1 h2, r1, r2, p, w => by
  cases r1; cases r2
  by_cases e : a = b
  ·subst e; exact .same
  obtain ⟨y1, d1⟩ := dk_empty (I.hok a _ h1)
  obtain ⟨y2, d2⟩ := dk_empty (I.hok b _ h2)
  exact EqTree.dicts (prog := p) (w := w) (e := fun _ => true) e y1 y2 (d1 p w) (d2 p w) (fun k v y hm _ => absurd hm (by simp))
theorem TwA.trees (I : Inv X pins σ H s) : ∀ {n : Nat} {xs ys : List V} {us vs : List Value}, TwA X.K H n xs ys → Vals xs us → Vals ys vs → ∀ (p : Program) (w : World) (j : Nat) (h1 : j < us.length) (h2 : j < vs.length), EqTree p w s n us[j] vs[j] true
 | _, _, _, _, _, .nil, r1, r2, p, w, j, h1, h2 => by
  cases r1
  exact absurd h1 (by simp)
 | _, _, _, _, _, .cons t ts, r1, r2, p, w, j, h1, h2 => by
  cases r1 with
  | cons a1 b1 => cases r2 with
   | cons a2 b2 =>
    cases j with
    | zero => exact TwT.tree I t a1 a2 p w
    | succ j => exact TwA.trees I ts b1 b2 p w j (by simpa using h1) (by simpa using h2)
end
def rNeTw (K : PySem.W.Frag) : R2 := fun x y H Q => ∃ (a b : Addr) (xs ys : List V), x = .ref a ∧ y = .ref b ∧ SqL K H a xs ∧ SqL K H b ys ∧ TwA K H 8 xs ys ∧ Q (.bl false) H
theorem op_neTw (hu : X.A.units + 64 < cLine) : OpR X (compareOp .NotEq) (rNeTw X.K) := by
 intro pins s σ H x y v u Q I rx ry h
 obtain ⟨a, b, xs, ys, rfl, rfl, h1, h2, ha, q⟩ := h
 obtain rfl : v = Value.ref a := rx
 obtain rfl : u = Value.ref b := ry
 obtain ⟨its, rv, pl, _⟩ := I.list h1
 obtain ⟨its2, rv2, pl2, _⟩ := I.list h2
 have hs : its.toArray.size = its2.toArray.size := by
  rw [List.size_toArray, List.size_toArray, ← rv.length, ← rv2.length]
  exact ha.len
 have t := SeqAt.RcNeAt.lists (A := X.A) (e := fun _ => true) (PlainL.isList pl) (PlainL.isList pl2) hs (by omega) fun j q1 q2 => fun p w E Q hq => by
  have z := (TwA.trees I ha rv rv2 p w j (by simpa using q1) (by simpa using q2)).at X.A.in1 (by show X.A.units + 1 + 8 < cLine; omega)
  exact (by simpa using z : SeqAt.EqIn p w X.A.in1 s its.toArray[j] its2.toArray[j] true) E Q hq
 rw [all_rng] at t
 exact t X.prog X.w _ _ ⟨.bl _, H, I, rfl, q⟩
end
def twD : Nat → D → Bool
 | _, .non => true
 | _, .bl _ => true
 | _, .int _ => true
 | _, .str _ => true
 | n + 1, .lst l => l.all (twD n)
 | n + 1, .tup l => l.all (twD n)
 | _ + 1, .dct [] [] => true
 | _, _ => false
theorem TwA.ofT {K : PySem.W.Frag} {k h : Hp} {n : Nat} (ih : ∀ {d : D} {x y : V}, Rep K k x d → Rep K k y d → twD n d = true → TwT K h n x y) : ∀ {l : List D} {xs ys : List V}, RepL K k xs l → RepL K k ys l → l.all (twD n) = true → TwA K h n xs ys
 | _, _, _, .nil, .nil, _ => .nil
 | _, _, _, .cons r1 q1, .cons r2 q2, hl => by
  rw [List.all_cons] at hl
  obtain ⟨h1, h2⟩ := Bool.and_eq_true_iff.mp hl
  exact .cons (ih r1 r2 h1) (TwA.ofT ih q1 q2 h2)
theorem TwT.of {K : PySem.W.Frag} {k h : Hp} (e : Same k h) : ∀ (n : Nat) {d : D} {x y : V}, Rep K k x d → Rep K k y d → twD n d = true → TwT K h n x y := by
 intro n
 induction n with
 | zero =>
  intro d x y r1 r2 hd
  cases d with
  | non => cases r1; cases r2; exact .non
  | bl b => cases r1; cases r2; exact .bl b
  | int i => cases r1; cases r2; exact .int i
  | str z => cases r1; cases r2; exact .str z
  | dct ks ds => cases ks <;> cases ds <;> cases hd
  | _ => cases hd
 | succ n ih =>
  intro d x y r1 r2 hd
  cases d with
  | non => cases r1; cases r2; exact .non
  | bl b => cases r1; cases r2; exact .bl b
  | int i => cases r1; cases r2; exact .int i
  | str z => cases r1; cases r2; exact .str z
  | lst l =>
   cases r1 with
   | lst h1 q1 => cases r2 with
    | lst h2 q2 => exact .lst (SqL.of (e _ _ h1)) (SqL.of (e _ _ h2)) (TwA.ofT (fun a b c => ih a b c) q1 q2 hd)
  | tup l =>
   cases r1 with
   | tup h1 q1 => cases r2 with
    | tup h2 q2 => exact .tup (Same.sqt e h1) (Same.sqt e h2) (TwA.ofT (fun a b c => ih a b c) q1 q2 hd)
  | dct ks ds =>
   cases ks with
   | cons _ _ => cases hd
   | nil => cases ds with
    | cons _ _ => cases hd
    | nil =>
     cases r1 with
     | dct h1 m1 _ => cases r2 with
      | dct h2 m2 _ =>
       cases List.map_eq_nil_iff.mp m1
       cases List.map_eq_nil_iff.mp m2
       exact .dct (e _ _ h1) (e _ _ h2)
  | _ => cases hd
theorem rd_neTw {K : PySem.W.Frag} {Φ : D → Prop} {l : List D} (hl : l.all (twD 8) = true) (q : Φ (.bl false)) : RD K (rNeTw K) (.lst l) (.lst l) Φ := fun k h v1 v2 e r1 r2 Q z => by
 cases r1 with
 | lst h1 q1 => cases r2 with
  | lst h2 q2 => exact ⟨_, _, _, _, rfl, rfl, SqL.of (e _ _ h1), SqL.of (e _ _ h2), TwA.ofT (fun a b c => TwT.of e 8 a b c) q1 q2 hl, z _ k h _ (Grow.refl e) (.bl _) q⟩
end DL
namespace DK
open PySem PySem.Spec PyProof.Rows L2 DL
theorem op_neTw {X : Cx} {K : PySem.W.Frag} (hu : X.A.units + 64 < cLine) (h : X.K = K := by rfl) : OpR X (compareOp .NotEq) (rNeTw K) := by subst h; exact DL.op_neTw hu
end DK
set_option Elab.async false
set_option linter.all false
set_option maxRecDepth 100000
set_option maxHeartbeats 4000000
namespace DL
open PySem PySem.Spec PyProof.Rows L2 DX
section
variable {K : PySem.W.Frag} {Φ : D → Prop}
end
end DL
namespace DK
open PySem PySem.Spec PyProof.Rows L2 DL
variable {X : Cx} {K : PySem.W.Frag}
end DK
namespace DL
open PySem PySem.Spec PyProof.Rows L2 DX DK
section
variable {c : Cn} {ς : Sta}
end
end DL
set_option Elab.async false
set_option linter.all false
set_option maxRecDepth 100000
set_option maxHeartbeats 4000000
namespace DS
open PySem PySem.Spec PyProof.Rows L2
section
variable {P : Program} {w : World} {A : Around} {E : Value → Shared → Prop} {s : Shared}
end
section
variable {X : Cx}
end
end DS
namespace DK
open PySem PySem.Spec PyProof.Rows L2 DS
variable {X : Cx} {K : PySem.W.Frag}
end DK
namespace DL
open PySem PySem.Spec PyProof.Rows L2 DX DS
section
variable {K : PySem.W.Frag} {Φ : D → Prop}
end
section
variable {c : Cn} {ς : Sta} {Φ : D → Sta → Prop}
end
end DL
set_option Elab.async false
set_option linter.all false
set_option maxRecDepth 100000
set_option maxHeartbeats 4000000
namespace DF
open PySem PySem.Spec PyProof.Rows L2
section
variable {X : Cx}
end
end DF
namespace DL
open PySem PySem.Spec PyProof.Rows L2 DX DF
structure RepKV (K : PySem.W.Frag) (k : Hp) (kvs : List (Key × V)) (kd : List (Key × D)) : Prop where
 ks : kvs.map (·.1) = kd.map (·.1)
 vs : RepL K k (kvs.map (·.2)) (kd.map (·.2))
def valD (kd : List (Key × D)) (key : Key) : Option D := (kd.find? fun e => decide (e.1 = key)).map (·.2)
def putD (kd : List (Key × D)) (key : Key) (d : D) : List (Key × D) := if (kd.any fun e => decide (e.1 = key)) = true then kd.map (fun e => if e.1 = key then (e.1, d) else e) else kd ++ [(key, d)]
section
variable {K : PySem.W.Frag} {k k' : Hp}
theorem RepKV.mono {kvs : List (Key × V)} {kd : List (Key × D)} (r : RepKV K k kvs kd) (e : Same k k') : RepKV K k' kvs kd := ⟨r.ks, r.vs.mono e⟩
theorem RepKV.length {kvs : List (Key × V)} {kd : List (Key × D)} (r : RepKV K k kvs kd) : kvs.length = kd.length := by
 have := congrArg List.length r.ks
 rwa [List.length_map, List.length_map] at this
theorem RepKV.cons {a : Key × V} {kvs : List (Key × V)} {kd : List (Key × D)} (r : RepKV K k (a :: kvs) kd) : ∃ b kd', kd = b :: kd' ∧ a.1 = b.1 ∧ Rep K k a.2 b.2 ∧ RepKV K k kvs kd' := by
 obtain ⟨h1, h2⟩ := r
 cases kd with
 | nil => cases h1
 | cons b kd =>
  rw [List.map_cons, List.map_cons] at h1 h2
  injection h1 with e1 h1
  cases h2 with
  | cons r1 r2 => exact ⟨b, kd, rfl, e1, r1, h1, r2⟩
theorem RepKV.nil {kd : List (Key × D)} (r : RepKV K k [] kd) : kd = [] := by
 cases kd with
 | nil => rfl
 | cons b kd => have := r.ks; cases this
theorem RepKV.mk' {a : Key × V} {b : Key × D} {kvs : List (Key × V)} {kd : List (Key × D)} (e : a.1 = b.1) (r : Rep K k a.2 b.2) (t : RepKV K k kvs kd) : RepKV K k (a :: kvs) (b :: kd) := ⟨by rw [List.map_cons, List.map_cons, e, t.ks], .cons r t.vs⟩
theorem RepKV.app : ∀ {kvs more : List (Key × V)} {kd md : List (Key × D)}, RepKV K k kvs kd → RepKV K k more md → RepKV K k (kvs ++ more) (kd ++ md)
 | [], _, kd, _, r, s => by rw [r.nil]; exact s
 | a :: kvs, _, kd, _, r, s => by
  obtain ⟨b, kd', rfl, e, r1, r2⟩ := r.cons
  exact .mk' e r1 (r2.app s)
theorem RepKV.get : ∀ {kvs : List (Key × V)} {kd : List (Key × D)} {i : Nat} {e : Key × D}, RepKV K k kvs kd → kd[i]? = some e → ∃ v, kvs[i]? = some (e.1, v) ∧ Rep K k v e.2
 | [], kd, i, e, r, h => by rw [r.nil] at h; cases h
 | a :: kvs, kd, i, e, r, h => by
  obtain ⟨b, kd', rfl, e1, r1, r2⟩ := r.cons
  cases i with
  | zero => cases h; exact ⟨a.2, by rw [← e1]; rfl, r1⟩
  | succ i => exact r2.get h
theorem RepKV.val (key : Key) : ∀ {kvs : List (Key × V)} {kd : List (Key × D)}, RepKV K k kvs kd → (valD kd key = none ∧ valV kvs key = none) ∨ ∃ d v, valD kd key = some d ∧ valV kvs key = some v ∧ Rep K k v d
 | [], kd, r => by rw [r.nil]; exact .inl ⟨rfl, rfl⟩
 | a :: kvs, kd, r => by
  obtain ⟨b, kd', rfl, e, r1, r2⟩ := r.cons
  by_cases h : b.1 = key
  ·refine .inr ⟨b.2, a.2, ?_, valV_pos (e.trans h), r1⟩
   simp [valD, List.find?_cons, h]
  ·have e1 : valD (b :: kd') key = valD kd' key := by simp [valD, List.find?_cons, h]
   have e2 : valV (a :: kvs) key = valV kvs key := valV_neg (by rw [e]; exact h)
   rw [e1, e2]
   exact r2.val key
theorem RepKV.any (key : Key) : ∀ {kvs : List (Key × V)} {kd : List (Key × D)}, RepKV K k kvs kd → (kvs.any fun e => decide (e.1 = key)) = kd.any fun e => decide (e.1 = key)
 | [], kd, r => by rw [r.nil]; rfl
 | a :: kvs, kd, r => by
  obtain ⟨b, kd', rfl, e, r1, r2⟩ := r.cons
  rw [List.any_cons, List.any_cons, r2.any key, e]
theorem RepKV.repl (key : Key) {v : V} {d : D} (r : Rep K k v d) : ∀ {kvs : List (Key × V)} {kd : List (Key × D)}, RepKV K k kvs kd → RepKV K k (kvs.map fun e => if e.1 = key then (e.1, v) else e) (kd.map fun e => if e.1 = key then (e.1, d) else e)
 | [], kd, h => by rw [h.nil]; exact ⟨rfl, .nil⟩
 | a :: kvs, kd, h => by
  obtain ⟨b, kd', rfl, e, r1, r2⟩ := h.cons
  rw [List.map_cons, List.map_cons]
  by_cases q : b.1 = key
  ·rw [if_pos q, if_pos (e.trans q)]
   exact .mk' e r (r2.repl key r)
  ·rw [if_neg q, if_neg (by rw [e]; exact q)]
   exact .mk' e r1 (r2.repl key r)
theorem RepKV.put (key : Key) {v : V} {d : D} (r : Rep K k v d) {kvs : List (Key × V)} {kd : List (Key × D)} (h : RepKV K k kvs kd) : RepKV K k (putK kvs key v) (putD kd key d) := by
 unfold putK putD
 rw [h.any key]
 split
 ·exact h.repl key r
 ·exact h.app ⟨rfl, .cons r .nil⟩
end
section
variable {K : PySem.W.Frag} {Φ : D → Prop}
end
section
variable {c : Cn} {ς : Sta} {Φ : D → Sta → Prop} {Ψ : Psi}
end
end DL
set_option Elab.async false
set_option linter.all false
set_option maxRecDepth 100000
set_option maxHeartbeats 4000000
namespace DF
open PySem PySem.Calls PySem.SeqAt PyProof.Rows PySem.W
def Srt (ds : List PyData) : Prop := Sortable ds ∨ ∀ d ∈ ds, ∃ xs, d = .tuple xs
section
variable {prog : Program} {w : World} {A : Around} {E : Value → Shared → Prop} {s : Shared}
end
end DF
set_option Elab.async false
set_option linter.all false
set_option maxRecDepth 100000
set_option maxHeartbeats 4000000
namespace DF
open PySem PySem.Spec PySem.Calls PyProof.Rows L2
open PySem.W (AllAlike Sortable EachIs dataLe list_sort_data dataLt)
mutual
theorem reads_lt {h : Heap} : ∀ {v : Value} {d : PyData} {as : List Addr}, Reads h v d as → ∀ a ∈ as, a < h.objs.size
 | _, _, _, .none, a, ha => absurd ha (by simp)
 | _, _, _, .bool _, a, ha => absurd ha (by simp)
 | _, _, _, .int _ _, a, ha => absurd ha (by simp)
 | _, _, _, .str _ _, a, ha => absurd ha (by simp)
 | _, _, _, .list h1 _ _ h4, a, ha => by
  rcases List.mem_cons.mp ha with e | ha
  ·rw [e]; exact Heap.lt_size h1
  ·exact readsAll_lt h4 a ha
 | _, _, _, .tuple h1 _ _ h4, a, ha => readsAll_lt h4 a ha
 | _, _, _, .dict h1 _ _ h4 h5, a, ha => by
  rcases List.mem_append.mp ha with ha | ha
  ·rcases List.mem_cons.mp ha with e | ha
   ·rw [e]; exact Heap.lt_size h1
   ·exact readsAll_lt h4 a ha
  ·exact readsAll_lt h5 a ha
theorem readsAll_lt {h : Heap} : ∀ {vs : List Value} {ds : List PyData} {as : List Addr}, ReadsAll h vs ds as → ∀ a ∈ as, a < h.objs.size
 | _, _, _, .nil, a, ha => absurd ha (by simp)
 | _, _, _, .cons h1 h2, a, ha => by
  rcases List.mem_append.mp ha with ha | ha
  ·exact reads_lt h1 a ha
  ·exact readsAll_lt h2 a ha
end
section
variable {prog : Program} {w : World} {A : Around} {E : Value → Shared → Prop} {s : Shared} {β : Type} {vs : List Value} {bs : List β} {enc : β → PyData} {R : Heap → Value → β → Prop} {Q : Value → Shared → Prop}
end
section
variable {X : Cx} {pins : List (Addr × Obj)} {σ : L2.St} {H : Hp} {s : Shared}
end
end DF
set_option Elab.async false
set_option linter.all false
set_option maxRecDepth 100000
set_option maxHeartbeats 4000000
namespace DF
open PySem PySem.Spec PySem.Calls PyProof.Rows L2 LiI
open PySem.W (AllAlike Sortable EachIs dataLe list_sort_data dataLt)
section
variable {X : Cx} {pins : List (Addr × Obj)} {σ : L2.St} {H : Hp} {s : Shared}
variable {e : Expr} {te : TE} {p apos cpos pos : Pos}
end
end DF
set_option Elab.async false
set_option linter.all false
set_option maxRecDepth 100000
set_option maxHeartbeats 4000000
namespace DL
open PySem PySem.Spec PyProof.Rows L2 DX DF LiI
open PySem.W (AllAlike Sortable EachIs dataLe dataLt)
def leD : D → D → Bool := dataLe false D.toPy
section
variable {K : PySem.W.Frag} {Φ : D → Prop}
end
section
variable {c : Cn} {ς : Sta} {Φ : D → Sta → Prop}
end
end DL
set_option Elab.async false
set_option linter.all false
set_option maxRecDepth 100000
set_option maxHeartbeats 4000000
namespace DF
open PySem PySem.Spec PySem.Calls PyProof.Rows L2
section
variable {X : Cx} {pins : List (Addr × Obj)} {σ : L2.St} {H : Hp} {s : Shared}
end
end DF
namespace DL
open PySem PySem.Spec PyProof.Rows L2 DX DF
section
variable {K : PySem.W.Frag} {k : Hp}
end
section
variable {c : Cn} {ς : Sta} {Φ : D → Sta → Prop} {Ψ : Psi}
end
end DL
set_option Elab.async false
set_option linter.all false
set_option maxRecDepth 100000
set_option maxHeartbeats 4000000
namespace DF
open PySem PySem.Spec PySem.Calls PyProof.Rows L2
open PySem.W (AllAlike Sortable EachIs dataLe)
abbrev Nk := List (NestedKey × Addr × V)
def NkRel (p : NestedKey × Addr × V) (q : NestedKey × Addr × Value) : Prop := p.1 = q.1 ∧ p.2.1 = q.2.1 ∧ RelV p.2.2 q.2.2
def NkP (P : Program) (w : World) (a : Addr) (ps : Nk) (h : Heap) : Prop := (a == sysModules) = false ∧ ps.length ≤ sizeLine ∧ ∃ xs : List (NestedKey × Addr × Value), Paired NkRel ps xs ∧
 ∃ o es ep, h.get? a = some o ∧ o.ExactDict ∧ o.data = .dict es ep ∧ es.toList = xs.map (entryOfKey (nestedKind P w)) ∧ (xs.map (·.1)).Nodup
def NkO (P : Program) (w : World) (a : Addr) (ps : Nk) : HO := .ext (NkP P w a ps)
mutual
inductive NkH (K : PySem.W.Frag) (H : Hp) : NestedKey → V → Prop
 | none : NkH K H .none .non
 | num (i : Int) : NkH K H (.num i) (.int i)
 | bool {b : Bool} {i : Int} : i = (if b = true then 1 else 0) → NkH K H (.num i) (.bl b)
 | text (x : Str) : NkH K H (.text x) (.str x)
 | tup {a : Addr} {vs : List V} {ks : List NestedKey} : SqT K H a vs → NkHL K H ks vs → NkH K H (.tup ks) (.ref a)
inductive NkHL (K : PySem.W.Frag) (H : Hp) : List NestedKey → List V → Prop
 | nil : NkHL K H [] []
 | cons {k : NestedKey} {ks : List NestedKey} {v : V} {vs : List V} : NkH K H k v → NkHL K H ks vs → NkHL K H (k :: ks) (v :: vs)
end
section
variable {X : Cx} {pins : List (Addr × Obj)} {σ : L2.St} {H : Hp} {s : Shared}
mutual
theorem NkH.is (I : Inv X pins σ H s) : ∀ {k : NestedKey} {v : V} {u : Value}, NkH X.K H k v → RelV v u → NestedIs s.heap k u
 | _, _, u, .none, r => by
  obtain rfl : u = Value.none := r
  exact .none
 | _, _, u, .num i, r => by
  obtain ⟨t, rfl⟩ := r
  exact .int i t
 | _, _, u, .bool (b := b) h, r => by
  obtain rfl : u = Value.bool b := r
  exact .bool h
 | _, _, u, .text x, r => by
  obtain ⟨t, rfl⟩ := r
  exact .text x t
 | _, _, u, .tup (a := a) h hs, r => by
  obtain rfl : u = Value.ref a := r
  obtain ⟨its, rv, ⟨o, g1, g2, n, g3⟩, _⟩ := I.tuple h
  exact .tup g1 g2 g3 (by simpa using NkHL.is I hs rv)
theorem NkHL.is (I : Inv X pins σ H s) : ∀ {ks : List NestedKey} {vs : List V} {us : List Value}, NkHL X.K H ks vs → Vals vs us → NestedAll s.heap ks us
 | _, _, _, .nil, .nil => .nil
 | _, _, _, .cons h t, .cons r rs => .cons (NkH.is I h r) (NkHL.is I t rs)
end
def valNk (ps : Nk) (k : NestedKey) : Option V := (ps.find? fun x => decide (x.1 = k)).map (·.2.2)
def putNk (ps : Nk) (k : NestedKey) (b : Addr) (v : V) : Nk := if (ps.any fun x => decide (x.1 = k)) = true then ps.map (fun x => if x.1 = k then (x.1, x.2.1, v) else x) else ps ++ [(k, b, v)]
theorem nk_val {ps : Nk} {xs : List (NestedKey × Addr × Value)} (r : Paired NkRel ps xs) (k : NestedKey) : RelO (valNk ps k) ((atKey xs k).map (·.2)) := by
 induction r with
 | nil => exact True.intro
 | @cons p q ps qs h t ih =>
  obtain ⟨h1, _, h2⟩ := h
  by_cases e : p.1 = k
  ·have e' : q.1 = k := h1.symm.trans e
   have b : atKey (q :: qs) k = some q.2 := by simp [atKey, List.find?_cons, e']
   have c : valNk (p :: ps) k = some p.2.2 := by simp [valNk, List.find?_cons, e]
   rw [b, c]
   exact h2
  ·have e' : ¬ q.1 = k := fun z => e (h1.trans z)
   have b : atKey (q :: qs) k = atKey qs k := by simp [atKey, List.find?_cons, e']
   have c : valNk (p :: ps) k = valNk ps k := by simp [valNk, List.find?_cons, e]
   rw [b, c]
   exact ih
theorem paired_app {α β : Type} {F : α → β → Prop} : ∀ {l : List α} {m : List β} {a : α} {b : β}, Paired F l m → F a b → Paired F (l ++ [a]) (m ++ [b])
 | _, _, _, _, .nil, h => .cons h .nil
 | _, _, _, _, .cons r t, h => .cons r (paired_app t h)
structure NkAt (P : Program) (w : World) (K : PySem.W.Frag) (H : Hp) (a : Addr) (ps : Nk) : Prop where
 at_ : Rd H a (NkO P w a ps)
 ks : ∀ p ∈ ps, NkH K H p.1 (.ref p.2.1) ∧ p.1.depth ≤ 8
theorem nk_rd (I : Inv X pins σ H s) (h : Rd H a u) : ObjOk X.prog X.w H s.heap a u := by
 rcases h with h | ⟨o, h⟩
 ·exact I.hok a _ h
 ·exact (I.hok a _ h).2
theorem NkAt.of (N : NkAt X.prog X.w X.K H a ps) (I : Inv X pins σ H s) : (a == sysModules) = false ∧ ps.length ≤ sizeLine ∧ ∃ xs, Paired NkRel ps xs ∧ s.heap.DictOfH (nestedKind X.prog X.w) a xs := by
 obtain ⟨⟨z, l, xs, r, o, es, ep, g, e1, e2, e3, e4⟩, _, _⟩ := (show ObjOk X.prog X.w H s.heap a (NkO X.prog X.w a ps) from nk_rd I N.at_)
 refine ⟨z, l, xs, r, o, es, ep, g, e1, e2, e3, fun x hx => ?_, e4⟩
 have key : ∀ {ps : Nk} {xs : List (NestedKey × Addr × Value)}, Paired NkRel ps xs → ∀ x ∈ xs, ∃ p ∈ ps, p.1 = x.1 ∧ p.2.1 = x.2.1 := fun {ps xs} r => by
  induction r with
  | nil => intro x hx; cases hx
  | cons h t ih =>
   intro x hx
   rcases List.mem_cons.mp hx with rfl | hx
   ·exact ⟨_, List.mem_cons_self, h.1, h.2.1⟩
   ·obtain ⟨p, hp, q⟩ := ih x hx
    exact ⟨p, List.mem_cons_of_mem _ hp, q⟩
 obtain ⟨p, hp, q1, q2⟩ := key r x hx
 obtain ⟨n1, n2⟩ := N.ks p hp
 rw [← q1, ← q2]
 exact ⟨NkH.is I n1 rfl, n2⟩
end
def rIxN (P : Program) (w : World) (K : PySem.W.Frag) : R2 := fun x y H Q => ∃ a ps k b v, x = .ref a ∧ y = .ref b ∧ NkAt P w K H a ps ∧ NkH K H k y ∧ k.depth ≤ 8 ∧ valNk ps k = some v ∧ Q v H
section
variable {X : Cx} {pins : List (Addr × Obj)} {σ : L2.St} {H : Hp} {s : Shared} {pos : Pos} {a : Addr} {ps : Nk}
theorem room_of {A : Around} (hu : A.units + 64 < cLine) : (nestedKind X.prog X.w).room A.in1 := by
 show A.in1.units + 8 < cLine
 have : A.in1.units = A.units + 1 := rfl
 omega
theorem n_getItem {k : NestedKey} {b : Addr} {v : V} {A : Around} {E : Value → Shared → Prop} {Q : Value → Shared → Prop} (hu : A.units + 64 < cLine) (I : Inv X pins σ H s) (N : NkAt X.prog X.w X.K H a ps) (hk : NkH X.K H k (.ref b)) (h8 : k.depth ≤ 8) (hv : valNk ps k = some v)
  (h : ∀ w' s', Inv X pins σ H s' → RelV v w' → Q w' s') : wpAny (model X.prog X.w) A (getItem (.ref a) (.ref b)) Q E s := by
 obtain ⟨z, l, xs, r, dd⟩ := N.of I
 obtain ⟨w', hw, rw'⟩ := RelO.some_of (v := v) (o := (atKey xs k).map (·.2)) (by rw [← hv]; exact nk_val r k)
 obtain ⟨p, hp, hp2⟩ := Option.map_eq_some_iff.mp hw
 refine wpAny_getItem_heap (room_of hu) ⟨NkH.is I hk rfl, h8⟩ dd hp ?_
 rw [hp2]
 exact h w' _ (I.tok _) rw'
theorem ix_N (hu : X.A.units + 64 < cLine) : IxR X (rIxN X.prog X.w X.K) := fun value slice pins s σ H x y v u Q I rx ry ⟨a, ps, k, b, w, ex, ey, N, hk, h8, hv, q⟩ hs => by
 subst ex ey
 obtain rfl : v = Value.ref a := rx
 obtain rfl : u = Value.ref b := ry
 obtain ⟨z, l, xs, r, dd⟩ := N.of I
 have hT := dd.typeIs
 unfold subscriptTail
 refine wpAny_bind ?_
 rw [getitemInPython_of_ne hT.not_modules]
 refine wpAny_bind (wpAny_specialOf hT PySem.F.slot_dict_getitem.lookup ?_)
 have fin : wpAny (model X.prog X.w) X.A (subscripted slice false (.ref a) (.ref b)) (fun r s₃ => wpAny (model X.prog X.w) X.A (letTemporaryGo value (.ref a) r >>= fun _ => pure r) (EP X pins σ Q) X.xe s₃) X.xe s := by
  rw [hs]
  exact wpAny_operating (n_getItem hu I N hk h8 hv fun w' s3 I3 rw' => wpAny_bind (wpAny_letTemporaryGo (wpAny_pure ⟨w, H, I3, rw', q⟩)))
 first
  | exact wpAny_pure (wpAny_bind fin)
  | exact wpAny_bind (wpAny_pure (wpAny_bind fin))
  | exact wpAny_bind fin
end
end DF
set_option Elab.async false
set_option linter.all false
set_option maxRecDepth 100000
set_option maxHeartbeats 4000000
namespace DL
open PySem PySem.Spec PyProof.Rows L2 DX DF
open PySem.W (AllAlike Sortable dataLe)
mutual
def nkOf : D → NestedKey
 | .int i => .num i
 | .str x => .text x
 | .tup l => .tup (nkL l)
 | .tpf l => .tup (nkL l)
 | .non => .none
 | .bl _ => .none
 | .lst _ => .none
 | .dct _ _ => .none
 | .dic _ _ => .none
 | .obj _ _ _ => .none
 | .ty _ => .none
 | .ref _ => .none
 | .exc _ _ _ _ _ => .none
 | .gh _ => .none
def nkL : List D → List NestedKey
 | [] => []
 | d :: l => nkOf d :: nkL l
end
mutual
def isNk : D → Bool
 | .int _ => true
 | .str _ => true
 | .non => true
 | .tup l => isNkL l
 | .tpf l => isNkL l
 | .bl _ => false
 | .lst _ => false
 | .dct _ _ => false
 | .dic _ _ => false
 | .obj _ _ _ => false
 | .ty _ => false
 | .ref _ => false
 | .exc _ _ _ _ _ => false
 | .gh _ => false
def isNkL : List D → Bool
 | [] => true
 | d :: l => isNk d && isNkL l
end
mutual
theorem Rep.nk {K : PySem.W.Frag} {k : Hp} : ∀ {d : D} {v : V}, Rep K k v d → isNk d = true → NkH K k (nkOf d) v
 | .non, _, .non, _ => .none
 | .int i, _, .int _, _ => .num i
 | .str x, _, .str _, _ => .text x
 | .tup l, _, .tup h r, q => .tup h (RepL.nk r q)
 | .tpf l, _, .tpf h _ r, q => .tup (.inl (.inr ⟨_, h⟩)) (RepL.nk r q)
 | .bl b, _, _, q => by cases q
 | .lst l, _, _, q => by cases q
 | .dct _ _, _, _, q => by cases q
 | .dic _ _, _, _, q => by cases q
 | .obj _ _ _, _, _, q => by cases q
 | .ty _, _, _, q => by cases q
 | .ref _, _, _, q => by cases q
 | .exc _ _ _ _ _, _, _, q => by cases q
 | .gh _, _, _, q => by cases q
theorem RepL.nk {K : PySem.W.Frag} {k : Hp} : ∀ {ds : List D} {vs : List V}, RepL K k vs ds → isNkL ds = true → NkHL K k (nkL ds) vs
 | [], _, .nil, _ => .nil
 | d :: ds, _, .cons h r, q => by
  have q' : (isNk d && isNkL ds) = true := q
  obtain ⟨q1, q2⟩ := Bool.and_eq_true_iff.mp q'
  exact .cons (Rep.nk h q1) (RepL.nk r q2)
end
mutual
theorem NkH.up {K : PySem.W.Frag} {k h : Hp} (e : Same k h) : ∀ {x : NestedKey} {v : V}, NkH K k x v → NkH K h x v
 | _, _, .none => .none
 | _, _, .num i => .num i
 | _, _, .bool h => .bool h
 | _, _, .text x => .text x
 | _, _, .tup h r => .tup (Same.sqt e h) (NkHL.up e r)
theorem NkHL.up {K : PySem.W.Frag} {k h : Hp} (e : Same k h) : ∀ {x : List NestedKey} {v : List V}, NkHL K k x v → NkHL K h x v
 | _, _, .nil => .nil
 | _, _, .cons h r => .cons (NkH.up e h) (NkHL.up e r)
end
mutual
theorem nk_py : ∀ d : D, isNk d = true → (nkOf d).data = d.toPy
 | .int i, _ => rfl
 | .str x, _ => rfl
 | .non, _ => rfl
 | .tup l, q => congrArg PyData.tuple (nkL_py l q)
 | .tpf l, q => congrArg PyData.tuple (nkL_py l q)
 | .bl b, q => by cases q
 | .lst l, q => by cases q
 | .dct _ _, q => by cases q
 | .dic _ _, q => by cases q
 | .obj _ _ _, q => by cases q
 | .ty _, q => by cases q
 | .ref _, q => by cases q
 | .exc _ _ _ _ _, q => by cases q
 | .gh _, q => by cases q
theorem nkL_py : ∀ l : List D, isNkL l = true → NestedKey.datas (nkL l) = toPyL l
 | [], _ => rfl
 | d :: l, q => by
  have q' : (isNk d && isNkL l) = true := q
  obtain ⟨q1, q2⟩ := Bool.and_eq_true_iff.mp q'
  show NestedKey.data (nkOf d) :: NestedKey.datas (nkL l) = d.toPy :: toPyL l
  rw [nk_py d q1, nkL_py l q2]
end
def keyOkD (d : D) : Bool := isNk d && (decide ((nkOf d).depth ≤ 8) && match d with
 | .tup _ => true
 | .tpf _ => true
 | _ => false)
theorem keyOk_ref {K : PySem.W.Frag} {k : Hp} {v : V} {d : D} (h : keyOkD d = true) (r : Rep K k v d) : ∃ b, v = .ref b ∧ NkH K k (nkOf d) (.ref b) ∧ (nkOf d).depth ≤ 8 := by
 unfold keyOkD at h
 obtain ⟨h1, h2⟩ := Bool.and_eq_true_iff.mp h
 obtain ⟨h2, h3⟩ := Bool.and_eq_true_iff.mp h2
 have n := Rep.nk r h1
 cases d with
 | tup l => cases r with | tup a b => exact ⟨_, rfl, n, of_decide_eq_true h2⟩
 | tpf l => cases r with | tpf a b => exact ⟨_, rfl, n, of_decide_eq_true h2⟩
 | _ => cases h3
def NkD (K : PySem.W.Frag) (k : Hp) : Nk → List (D × D) → Prop := Paired fun (p : NestedKey × Addr × V) (e : D × D) => p.1 = nkOf e.1 ∧ keyOkD e.1 = true ∧ Rep K k (.ref p.2.1) e.1 ∧ Rep K k p.2.2 e.2
theorem NkD.mono {K : PySem.W.Frag} {k k' : Hp} {ps : Nk} {kd : List (D × D)} (r : NkD K k ps kd) (e : Same k k') : NkD K k' ps kd := by
 induction r with
 | nil => exact .nil
 | cons h t ih => exact .cons ⟨h.1, h.2.1, h.2.2.1.mono e, h.2.2.2.mono e⟩ ih
def nkM (P : Program) (w : World) (K : PySem.W.Frag) (kd : List (D × D)) : MO := .gen (fun k o u => ∃ ps : Nk, u = NkO P w o ps ∧ (o == sysModules) = false ∧ (List.map (fun p : NestedKey × Addr × V => p.1) ps).Nodup ∧ ps.length ≤ sizeLine ∧ NkD K k ps kd)
 (fun k k' a u e h => by
  obtain ⟨ps, h1, h2, h3, h4, h5⟩ := h
  exact ⟨ps, h1, h2, h3, h4, h5.mono e⟩)
def valDN (kd : List (D × D)) (d : D) : Option D := (kd.find? fun e => decide (nkOf e.1 = nkOf d)).map (·.2)
def putDN (kd : List (D × D)) (d x : D) : List (D × D) := if (kd.any fun e => decide (nkOf e.1 = nkOf d)) = true then kd.map (fun e => if nkOf e.1 = nkOf d then (e.1, x) else e) else kd ++ [(d, x)]
section
variable {K : PySem.W.Frag} {k k' : Hp}
theorem NkD.val {ps : Nk} {kd : List (D × D)} (r : NkD K k ps kd) (d : D) : (valDN kd d = none ∧ valNk ps (nkOf d) = none) ∨ ∃ x v, valDN kd d = some x ∧ valNk ps (nkOf d) = some v ∧ Rep K k v x := by
 induction r with
 | nil => exact .inl ⟨rfl, rfl⟩
 | @cons p e ps kd h t ih =>
  obtain ⟨h1, h2, h3, h4⟩ := h
  by_cases q : nkOf e.1 = nkOf d
  ·refine .inr ⟨e.2, p.2.2, ?_, ?_, h4⟩
   ·simp [valDN, List.find?_cons, q]
   ·simp [valNk, List.find?_cons, h1, q]
  ·have e1 : valDN (e :: kd) d = valDN kd d := by simp [valDN, List.find?_cons, q]
   have e2 : valNk (p :: ps) (nkOf d) = valNk ps (nkOf d) := by simp [valNk, List.find?_cons, h1, q]
   rw [e1, e2]
   exact ih
theorem NkD.any {ps : Nk} {kd : List (D × D)} (r : NkD K k ps kd) (d : D) : (ps.any fun x => decide (x.1 = nkOf d)) = kd.any fun e => decide (nkOf e.1 = nkOf d) := by
 induction r with
 | nil => rfl
 | cons h t ih => rw [List.any_cons, List.any_cons, ih, h.1]
theorem NkD.repl {x : NestedKey} {y : D} {v : V} (rv : Rep K k v y) {ps : Nk} {kd : List (D × D)} (r : NkD K k ps kd) : NkD K k (ps.map fun p => if p.1 = x then (p.1, p.2.1, v) else p) (kd.map fun e => if nkOf e.1 = x then (e.1, y) else e) := by
 induction r with
 | nil => exact .nil
 | @cons p e ps kd h t ih =>
  obtain ⟨h1, h2, h3, h4⟩ := h
  refine .cons ?_ ih
  dsimp only
  by_cases q : nkOf e.1 = x
  ·rw [if_pos q, if_pos (h1.trans q)]
   exact ⟨h1, h2, h3, rv⟩
  ·rw [if_neg q, if_neg fun z => q (h1.symm.trans z)]
   exact ⟨h1, h2, h3, h4⟩
theorem NkD.put {ps : Nk} {kd : List (D × D)} (r : NkD K k ps kd) {d x : D} {b : Addr} {v : V} (hd : keyOkD d = true) (rb : Rep K k (.ref b) d) (rv : Rep K k v x) : NkD K k (putNk ps (nkOf d) b v) (putDN kd d x) := by
 unfold putNk putDN
 rw [r.any d]
 split
 ·exact r.repl rv
 ·exact paired_app r ⟨rfl, hd, rb, rv⟩
theorem NkD.at_ {ps : Nk} {kd : List (D × D)} {P : Program} {w : World} {h : Hp} {o : Addr} (r : NkD K k ps kd) (e : Same k h) (ho : Rd h o (NkO P w o ps)) : NkAt P w K h o ps := by
 refine ⟨ho, ?_⟩
 clear ho
 induction r with
 | nil => intro p hp; cases hp
 | @cons p x ps kd q t ih =>
  intro y hy
  rcases List.mem_cons.mp hy with rfl | hy
  ·obtain ⟨b, eb, n, l⟩ := keyOk_ref q.2.1 q.2.2.1
   cases eb
   rw [q.1]
   exact ⟨NkH.up e n, l⟩
  ·exact ih y hy
theorem NkD.data {ps : Nk} {kd : List (D × D)} (r : NkD K k ps kd) : (ps.map fun p => p.1.data) = kd.map fun e => e.1.toPy := by
 induction r with
 | nil => rfl
 | cons h t ih => rw [List.map_cons, List.map_cons, ih, h.1, nk_py _ (Bool.and_eq_true_iff.mp h.2.1).1]
theorem NkD.mem {ps : Nk} {kd : List (D × D)} (r : NkD K k ps kd) : ∀ p ∈ ps, ∃ e ∈ kd, p.1 = nkOf e.1 ∧ keyOkD e.1 = true ∧ Rep K k (.ref p.2.1) e.1 := by
 induction r with
 | nil => intro p hp; cases hp
 | cons h t ih =>
  intro p hp
  rcases List.mem_cons.mp hp with rfl | hp
  ·exact ⟨_, List.mem_cons_self, h.1, h.2.1, h.2.2.1⟩
  ·obtain ⟨e, he, y⟩ := ih p hp
   exact ⟨e, List.mem_cons_of_mem _ he, y⟩
theorem NkD.pairs {ps : Nk} {kd : List (D × D)} (r : NkD K k ps kd) : ∃ L : List ((NestedKey × Addr × V) × D), L.map (·.1) = ps ∧ L.map (·.2) = kd.map (·.1) ∧ ∀ x ∈ L, x.1.1.data = x.2.toPy ∧ Rep K k (.ref x.1.2.1) x.2 := by
 induction r with
 | nil => exact ⟨[], rfl, rfl, fun x hx => nomatch hx⟩
 | @cons p e ps kd h t ih =>
  obtain ⟨L, l1, l2, l3⟩ := ih
  refine ⟨(p, e.1) :: L, by rw [List.map_cons, l1], by rw [List.map_cons, l2]; rfl, fun x hx => ?_⟩
  rcases List.mem_cons.mp hx with rfl | hx
  ·exact ⟨by rw [h.1]; exact nk_py _ (Bool.and_eq_true_iff.mp h.2.1).1, h.2.2.1⟩
  ·exact l3 x hx
end
section
variable {P : Program} {w : World} {c : Cn} {ς : Sta} {Φ : D → Sta → Prop} {Ψ : Psi}
theorem SR.nk {σ : L2.St} {k h : Hp} {j : Nat} {o : Addr} {kd : List (D × D)} (S : SR c ς σ k h) (e : ς.m[j]? = some (o, nkM P w c.K kd)) : ∃ ps, NkAt P w c.K h o ps ∧ (o == sysModules) = false ∧ (ps.map (·.1)).Nodup ∧ ps.length ≤ sizeLine ∧ NkD c.K k ps kd := by
 obtain ⟨_, _, u, ho, _, _, ps, rfl, h1, h2, h3, h4⟩ := S.at e
 exact ⟨ps, h4.at_ S.kh (.inl ho), h1, h2, h3, h4⟩
end
end DL
set_option Elab.async false
set_option linter.all false
set_option maxRecDepth 100000
set_option maxHeartbeats 4000000
namespace DF
open PySem PySem.Spec PySem.Calls PyProof.Rows L2
section
variable {ek ev ta ia tb ib : Expr} {fa fb : List Expr} {sc : Scope} {ps : Pos}
variable {pg : Program} {w : World} {A : Around} {R : Result → Shared → Prop}
abbrev tests (fs : List Expr) (en : Env) : Sem Bool := forIn fs true fun t go => if go = true then do let b ← isTrue t en (eval t en); pure (ForInStep.yield b) else pure (ForInStep.yield go)
end
section
variable {X : Cx}
end
end DF
set_option Elab.async false
set_option linter.all false
set_option maxRecDepth 100000
set_option maxHeartbeats 4000000
namespace DL
open PySem PySem.Spec PyProof.Rows L2 DX DF
section
variable {K : PySem.W.Frag} {Φ : D → Prop}
end
section
variable {c : Cn} {ς : Sta} {Φ : D → Sta → Prop}
end
end DL
set_option Elab.async false
set_option linter.all false
set_option maxRecDepth 100000
set_option maxHeartbeats 4000000
namespace FP
open PySem DL L2
open PySem.W (dataLe dataLt TotalLe)
abbrev Mono := List (Str × Int)
def qD (x : Str × Int) : D := .tup [.str x.1, .int x.2]
theorem tot {α : Type} (f : α → PyData) : TotalLe (dataLe false f) := PySem.W.sortLe_total _ _ _
def leM (a b : Str × Int) : Bool := leD (qD a) (qD b)
theorem leM_tot : TotalLe leM := tot fun a => (qD a).toPy
theorem str_cps {x y : Str} (h : x.cps.toList = y.cps.toList) : x = y := PySem.W.str_of_cps h
theorem ltP (a b : Str × Int) : dataLt (qD a).toPy (qD b).toPy = if a.1 = b.1 then decide (a.2 < b.2) else decide (a.1.cps.toList < b.1.cps.toList) := by
 show dataLt (.tuple [.str a.1, .int a.2]) (.tuple [.str b.1, .int b.2]) = _
 have e1 : PyData.eqv (.str a.1) (.str b.1) = decide (a.1 = b.1) := by rw [Bool.eq_iff_iff]; simp [PyData.eqv]
 have e2 : PyData.eqv (.int a.2) (.int b.2) = decide (a.2 = b.2) := by rw [Bool.eq_iff_iff]; simp [PyData.eqv]
 rw [PySem.W.dataLt_pair (by simp [PySem.W.alike]) (by simp [PySem.W.alike]), PySem.W.dataLt_str, PySem.W.dataLt_int, e1, e2]
 by_cases h : a.1 = b.1
 ·rw [if_pos (decide_eq_true h), if_pos h]
  by_cases h2 : a.2 = b.2
  ·rw [if_pos (decide_eq_true h2)]
   simp [h2]
  ·rw [if_neg (by simpa using h2)]
 ·rw [if_neg (by simpa using h), if_neg h]
theorem leM_eq (a b : Str × Int) : leM a b = !dataLt (qD b).toPy (qD a).toPy := by
 unfold leM leD
 rw [PySem.W.dataLe_eq]
 rfl
theorem lst_anti {a b : List Nat} (h1 : ¬ a < b) (h2 : ¬ b < a) : a = b := List.le_antisymm (show a ≤ b from h2) (show b ≤ a from h1)
theorem leM_anti (a b : Str × Int) (h1 : leM a b = true) (h2 : leM b a = true) : a = b := by
 rw [leM_eq, ltP] at h1 h2
 by_cases h : a.1 = b.1
 ·rw [if_pos h.symm] at h1
  rw [if_pos h] at h2
  simp only [Bool.not_eq_true', decide_eq_false_iff_not] at h1 h2
  exact Prod.ext h (by omega)
 ·rw [if_neg fun z => h z.symm] at h1
  rw [if_neg h] at h2
  simp only [Bool.not_eq_true', decide_eq_false_iff_not] at h1 h2
  exact absurd (str_cps (lst_anti h2 h1)) h
def sortM (m : Mono) : Mono := m.mergeSort leM
theorem sortM_perm (m : Mono) : (sortM m).Perm m := List.mergeSort_perm m leM
theorem sortM_pw (m : Mono) : (sortM m).Pairwise fun a b => leM a b = true := List.pairwise_mergeSort leM_tot.trans (fun a b => by simpa using leM_tot.total a b) m
theorem sort_uniq {a m : Mono} (hp : a.Perm m) (ha : a.Pairwise fun x y => leM x y = true) : a = sortM m := by
 refine PySem.W.Srt.the_of_perm leM (fun a b c => leM_tot.trans a b c) (fun a b => ?_) leM_anti hp ha
 simpa using leM_tot.total a b
theorem sortM_of_perm {a b : Mono} (h : a.Perm b) : sortM a = sortM b := sort_uniq ((sortM_perm a).trans h) (sortM_pw a)
structure Mk (m : Mono) : Prop where
 nd : (m.map (·.1)).Nodup
 ge : ∀ x ∈ m, 1 ≤ x.2
def pow (m : Mono) (x : Str) : Int := ((m.find? fun e => decide (e.1 = x)).map (·.2)).getD 0
theorem pow_nil (x : Str) : pow [] x = 0 := rfl
theorem pow_cons (e : Str × Int) (m : Mono) (x : Str) : pow (e :: m) x = if e.1 = x then e.2 else pow m x := by
 unfold pow
 rw [List.find?_cons]
 by_cases h : e.1 = x
 ·simp [h]
 ·simp [h]
theorem Mk.tail {e : Str × Int} {m : Mono} (h : Mk (e :: m)) : Mk m := ⟨by have := h.nd; rw [List.map_cons] at this; exact (List.nodup_cons.mp this).2, fun x hx => h.ge x (List.mem_cons_of_mem _ hx)⟩
theorem pow_out {m : Mono} {x : Str} (h : ∀ e ∈ m, e.1 ≠ x) : pow m x = 0 := by
 unfold pow
 have : (m.find? fun e => decide (e.1 = x)) = none := List.find?_eq_none.mpr fun e he => by simpa using h e he
 rw [this]
 rfl
theorem pow_in {m : Mono} (h : (m.map (·.1)).Nodup) {e : Str × Int} (he : e ∈ m) : pow m e.1 = e.2 := by
 induction m with
 | nil => cases he
 | cons a m ih =>
  rw [List.map_cons] at h
  obtain ⟨h1, h2⟩ := List.nodup_cons.mp h
  rw [pow_cons]
  rcases List.mem_cons.mp he with rfl | he
  ·rw [if_pos rfl]
  ·rw [if_neg, ih h2 he]
   intro z
   exact h1 (List.mem_map.mpr ⟨e, he, z.symm⟩)
theorem Mk.perm {a b : Mono} (h : Mk a) (p : a.Perm b) : Mk b := ⟨(p.map _).nodup_iff.mp h.nd, fun x hx => h.ge x (p.mem_iff.mpr hx)⟩
theorem pow_perm {a b : Mono} (h : Mk a) (p : a.Perm b) (x : Str) : pow a x = pow b x := by
 by_cases hx : ∃ e ∈ a, e.1 = x
 ·obtain ⟨e, he, rfl⟩ := hx
  rw [pow_in h.nd he, pow_in (h.perm p).nd (p.mem_iff.mp he)]
 ·rw [pow_out fun e he z => hx ⟨e, he, z⟩, pow_out fun e he z => hx ⟨e, p.mem_iff.mpr he, z⟩]
theorem Mk.sort {m : Mono} (h : Mk m) : Mk (sortM m) := h.perm (sortM_perm m).symm
theorem pow_sort {m : Mono} (h : Mk m) (x : Str) : pow (sortM m) x = pow m x := (pow_perm h (sortM_perm m).symm x).symm
theorem mem_iff_pow {m : Mono} (h : Mk m) (e : Str × Int) : e ∈ m ↔ pow m e.1 = e.2 ∧ 1 ≤ e.2 := by
 refine ⟨fun he => ⟨pow_in h.nd he, h.ge e he⟩, fun ⟨h1, h2⟩ => ?_⟩
 by_cases hx : ∃ d ∈ m, d.1 = e.1
 ·obtain ⟨d, hd, ed⟩ := hx
  have := pow_in h.nd hd
  rw [ed, h1] at this
  have : d = e := Prod.ext ed this.symm
  rw [← this]
  exact hd
 ·rw [pow_out fun d hd z => hx ⟨d, hd, z⟩] at h1
  omega
theorem nodup_of_keys {m : Mono} (h : (m.map (·.1)).Nodup) : m.Nodup := List.Pairwise.of_map _ (fun _ _ z e => z (by rw [e])) h
theorem perm_of_pow {a b : Mono} (ha : Mk a) (hb : Mk b) (h : ∀ x, pow a x = pow b x) : a.Perm b := by
 refine (List.perm_ext_iff_of_nodup (nodup_of_keys ha.nd) (nodup_of_keys hb.nd)).mpr fun e => ?_
 rw [mem_iff_pow ha, mem_iff_pow hb, h]
theorem canon {a b : Mono} (ha : Mk a) (hb : Mk b) (h : ∀ x, pow a x = pow b x) : sortM a = sortM b := sortM_of_perm (perm_of_pow ha hb h)
def putM (m : Mono) (x : Str) (n : Int) : Mono := if (m.any fun e => decide (e.1 = x)) = true then m.map (fun e => if e.1 = x then (e.1, n) else e) else m ++ [(x, n)]
def joinM (a b : Mono) : Mono := b.foldl (fun m e => putM m e.1 (pow m e.1 + e.2)) a
theorem putM_keys (m : Mono) (x : Str) (n : Int) (h : (m.map (·.1)).Nodup) : ((putM m x n).map (·.1)).Nodup := by
 unfold putM
 split
 ·rw [List.map_map]
  have e : ((fun e : Str × Int => e.1) ∘ fun e : Str × Int => if e.1 = x then (e.1, n) else e) = fun e => e.1 := by
   funext e
   show (if e.1 = x then (e.1, n) else e).1 = e.1
   split <;> rfl
  rw [e]
  exact h
 ·rename_i hn
  rw [List.map_append]
  refine List.nodup_append.mpr ⟨h, by simp, fun a ha c hc => ?_⟩
  have hc : c = x := by simpa using hc
  subst hc
  intro e
  subst e
  obtain ⟨y, hy, ey⟩ := List.mem_map.mp ha
  exact hn (List.any_eq_true.mpr ⟨y, hy, decide_eq_true ey⟩)
theorem pow_app (m : Mono) (x y : Str) (n : Int) (h : ∀ e ∈ m, e.1 ≠ x) : pow (m ++ [(x, n)]) y = if x = y then n else pow m y := by
 induction m with
 | nil => rw [List.nil_append, pow_cons]
 | cons a m ih =>
  rw [List.cons_append, pow_cons, ih fun e he => h e (List.mem_cons_of_mem _ he), pow_cons]
  by_cases ha : a.1 = y
  ·have : x ≠ y := fun z => h a List.mem_cons_self (by rw [ha, z])
   rw [if_pos ha, if_neg this, if_pos ha]
  ·rw [if_neg ha, if_neg ha]
theorem pow_repl (m : Mono) (x y : Str) (n : Int) (h : ∃ e ∈ m, e.1 = x) : pow (m.map fun e => if e.1 = x then (e.1, n) else e) y = if x = y then n else pow m y := by
 induction m with
 | nil => obtain ⟨e, he, _⟩ := h; cases he
 | cons a m ih =>
  rw [List.map_cons, pow_cons, pow_cons]
  by_cases ha : a.1 = x
  ·rw [if_pos ha]
   dsimp only
   by_cases hy : a.1 = y
   ·rw [if_pos hy, if_pos (ha.symm.trans hy)]
   ·have hxy : x ≠ y := fun z => hy (ha.trans z)
    rw [if_neg hy, if_neg hxy, if_neg hy]
    by_cases h2 : ∃ e ∈ m, e.1 = x
    ·rw [ih h2, if_neg hxy]
    ·have : (m.map fun e => if e.1 = x then (e.1, n) else e) = m := by
      refine (List.map_congr_left fun e he => ?_).trans (List.map_id m)
      rw [if_neg fun z => h2 ⟨e, he, z⟩]
      rfl
     rw [this]
  ·rw [if_neg ha]
   have h2 : ∃ e ∈ m, e.1 = x := by
    obtain ⟨e, he, ee⟩ := h
    rcases List.mem_cons.mp he with rfl | he
    ·exact absurd ee ha
    ·exact ⟨e, he, ee⟩
   rw [ih h2]
   by_cases hy : a.1 = y
   ·have hxy : x ≠ y := fun z => ha (hy.trans z.symm)
    rw [if_pos hy, if_neg hxy, if_pos hy]
   ·rw [if_neg hy, if_neg hy]
theorem pow_put (m : Mono) (x y : Str) (n : Int) : pow (putM m x n) y = if x = y then n else pow m y := by
 unfold putM
 split
 ·rename_i h
  obtain ⟨e, he, ee⟩ := List.any_eq_true.mp h
  exact pow_repl m x y n ⟨e, he, of_decide_eq_true ee⟩
 ·rename_i h
  exact pow_app m x y n fun e he z => h (List.any_eq_true.mpr ⟨e, he, decide_eq_true z⟩)
theorem mem_put {m : Mono} {x : Str} {n : Int} {e : Str × Int} (h : e ∈ putM m x n) : e = (x, n) ∨ e ∈ m := by
 unfold putM at h
 split at h
 ·obtain ⟨d, hd, rfl⟩ := List.mem_map.mp h
  by_cases hx : d.1 = x
  ·rw [if_pos hx, hx]; exact .inl rfl
  ·rw [if_neg hx]; exact .inr hd
 ·rcases List.mem_append.mp h with h | h
  ·exact .inr h
  ·exact .inl (List.mem_singleton.mp h)
theorem pow_ge {m : Mono} (h : ∀ x ∈ m, 1 ≤ x.2) (x : Str) : 0 ≤ pow m x := by
 unfold pow
 cases e : m.find? fun e => decide (e.1 = x) with
 | none => exact Int.le_refl 0
 | some d =>
  have := h d (List.mem_of_find?_eq_some e)
  show 0 ≤ d.2
  omega
theorem Mk.put {m : Mono} (h : Mk m) (x : Str) {n : Int} (hn : 1 ≤ n) : Mk (putM m x n) := ⟨putM_keys m x n h.nd, fun e he => by
 rcases mem_put he with rfl | he
 ·exact hn
 ·exact h.ge e he⟩
theorem join_ok : ∀ {b a : Mono}, Mk a → (∀ e ∈ b, 1 ≤ e.2) → Mk (joinM a b)
 | [], a, h, _ => h
 | e :: b, a, h, hb => by
  show Mk (joinM (putM a e.1 (pow a e.1 + e.2)) b)
  have := pow_ge h.ge e.1
  have := hb e List.mem_cons_self
  exact join_ok (h.put e.1 (by omega)) fun x hx => hb x (List.mem_cons_of_mem _ hx)
theorem pow_join : ∀ {b a : Mono}, (b.map (·.1)).Nodup → ∀ x, pow (joinM a b) x = pow a x + pow b x
 | [], a, _, x => by show pow a x = pow a x + pow [] x; rw [pow_nil]; omega
 | e :: b, a, h, x => by
  rw [List.map_cons] at h
  obtain ⟨h1, h2⟩ := List.nodup_cons.mp h
  show pow (joinM (putM a e.1 (pow a e.1 + e.2)) b) x = _
  rw [pow_join h2, pow_put, pow_cons]
  by_cases hx : e.1 = x
  ·subst hx
   rw [if_pos rfl, if_pos rfl, pow_out fun d hd z => h1 (List.mem_map.mpr ⟨d, hd, z⟩)]
   omega
  ·rw [if_neg hx, if_neg hx]
def mulM (a b : Mono) : Mono := sortM (joinM a b)
theorem Mk.mul {a b : Mono} (ha : Mk a) (hb : Mk b) : Mk (mulM a b) := (join_ok ha hb.ge).sort
theorem pow_mul {a b : Mono} (ha : Mk a) (hb : Mk b) (x : Str) : pow (mulM a b) x = pow a x + pow b x := by
 unfold mulM
 rw [pow_sort (join_ok ha hb.ge), pow_join hb.nd]
theorem mul_eq {a b c d : Mono} (ha : Mk a) (hb : Mk b) (hc : Mk c) (hd : Mk d) (h : ∀ x, pow a x + pow b x = pow c x + pow d x) : mulM a b = mulM c d :=
 canon (join_ok ha hb.ge) (join_ok hc hd.ge) fun x => by rw [pow_join hb.nd, pow_join hd.nd, h]
theorem mul_sortl {a b : Mono} (ha : Mk a) (hb : Mk b) : mulM (sortM a) b = mulM a b := mul_eq ha.sort hb ha hb fun x => by rw [pow_sort ha]
theorem mul_sortr {a b : Mono} (ha : Mk a) (hb : Mk b) : mulM a (sortM b) = mulM a b := mul_eq ha hb.sort ha hb fun x => by rw [pow_sort hb]
theorem mul_assoc {a b c : Mono} (ha : Mk a) (hb : Mk b) (hc : Mk c) : mulM (mulM a b) c = mulM a (mulM b c) := mul_eq (ha.mul hb) hc ha (hb.mul hc) fun x => by rw [pow_mul ha hb, pow_mul hb hc]; omega
theorem mk_nil : Mk [] := ⟨List.nodup_nil, fun x hx => nomatch hx⟩
def outM (m : Mono) (x : Str) : Mono := m.filter fun e => !decide (e.1 = x)
theorem Mk.out {m : Mono} (h : Mk m) (x : Str) : Mk (outM m x) := ⟨h.nd.sublist (List.filter_sublist.map _), fun e he => h.ge e ((List.mem_filter.mp he).1)⟩
theorem pow_outM (m : Mono) (x y : Str) : pow (outM m x) y = if x = y then 0 else pow m y := by
 induction m with
 | nil => show pow [] y = if x = y then 0 else pow [] y; rw [pow_nil]; split <;> rfl
 | cons e m ih =>
  unfold outM at ih ⊢
  rw [List.filter_cons, pow_cons]
  by_cases he : e.1 = x
  ·rw [if_neg (by simp [he]), ih]
   by_cases hy : x = y
   ·rw [if_pos hy, if_pos hy]
   ·rw [if_neg hy, if_neg hy, if_neg (by rw [he]; exact hy)]
  ·rw [if_pos (by simp [he]), pow_cons, ih]
   by_cases hy : x = y
   ·rw [if_pos hy, if_pos hy, if_neg fun z => he (z.trans hy.symm)]
   ·rw [if_neg hy, if_neg hy]
theorem out_sort {m : Mono} (h : Mk m) (x : Str) : sortM (outM (sortM m) x) = sortM (outM m x) := canon (h.sort.out x) (h.out x) fun y => by rw [pow_outM, pow_outM, pow_sort h]
end FP
set_option Elab.async false
set_option linter.all false
set_option maxRecDepth 100000
set_option maxHeartbeats 4000000
namespace FP
open PySem DL L2
open PySem.W (dataLe dataLt TotalLe)
abbrev Term := Int × Mono
def lin (ts : List Term) (F : Mono → Int) : Int := (ts.map fun t => t.1 * F (sortM t.2)).sum
theorem emod_add_eq {a b c d p : Int} (h1 : a % p = c % p) (h2 : b % p = d % p) : (a + b) % p = (c + d) % p := by
 rw [Int.add_emod, h1, h2, ← Int.add_emod]
theorem emod_mul_eq {a b c d p : Int} (h1 : a % p = c % p) (h2 : b % p = d % p) : (a * b) % p = (c * d) % p := by
 rw [Int.mul_emod, h1, h2, ← Int.mul_emod]
theorem lin_cons (t : Term) (ts : List Term) (F : Mono → Int) : lin (t :: ts) F = t.1 * F (sortM t.2) + lin ts F := by
 unfold lin
 rw [List.map_cons, List.sum_cons]
theorem lin_nil (F : Mono → Int) : lin [] F = 0 := rfl
theorem lin_app (a b : List Term) (F : Mono → Int) : lin (a ++ b) F = lin a F + lin b F := by
 unfold lin
 rw [List.map_append, List.sum_append]
def Eqv (p : Int) (a b : List Term) : Prop := ∀ F, lin a F % p = lin b F % p
theorem Eqv.refl {p : Int} (a : List Term) : Eqv p a a := fun _ => rfl
theorem Eqv.symm {p : Int} {a b : List Term} (h : Eqv p a b) : Eqv p b a := fun F => (h F).symm
theorem Eqv.trans {p : Int} {a b c : List Term} (h : Eqv p a b) (g : Eqv p b c) : Eqv p a c := fun F => (h F).trans (g F)
end FP
set_option Elab.async false
set_option linter.all false
set_option maxRecDepth 100000
set_option maxHeartbeats 4000000
namespace FP
open PySem DL L2
def Tk (ts : List Term) : Prop := ∀ t ∈ ts, Mk t.2
theorem Tk.cons {t : Term} {ts : List Term} (h : Tk (t :: ts)) : Mk t.2 ∧ Tk ts := ⟨h t List.mem_cons_self, fun u hu => h u (List.mem_cons_of_mem _ hu)⟩
theorem Tk.app {a b : List Term} (ha : Tk a) (hb : Tk b) : Tk (a ++ b) := fun t ht => (List.mem_append.mp ht).elim (ha t) (hb t)
theorem lin_congr {a : List Term} {F G : Mono → Int} (h : ∀ t ∈ a, F (sortM t.2) = G (sortM t.2)) : lin a F = lin a G := by
 unfold lin
 congr 1
 exact List.map_congr_left fun t ht => by rw [h t ht]
theorem lin_congr_mod {p : Int} {F G : Mono → Int} : ∀ {a : List Term}, (∀ t ∈ a, F (sortM t.2) % p = G (sortM t.2) % p) → lin a F % p = lin a G % p
 | [], _ => rfl
 | t :: a, h => by
  rw [lin_cons, lin_cons]
  exact emod_add_eq (emod_mul_eq rfl (h t List.mem_cons_self)) (lin_congr_mod fun u hu => h u (List.mem_cons_of_mem _ hu))
section
variable {p : Int} {a b c d : List Term}
theorem Eqv.app (h : Eqv p a c) (g : Eqv p b d) : Eqv p (a ++ b) (c ++ d) := fun F => by rw [lin_app, lin_app]; exact emod_add_eq (h F) (g F)
def prodT (a b : List Term) : List Term := a.flatMap fun t => b.map fun u => (t.1 * u.1, joinM t.2 u.2)
theorem Tk.prod (ha : Tk a) (hb : Tk b) : Tk (prodT a b) := fun t ht => by
 obtain ⟨u, hu, ht⟩ := List.mem_flatMap.mp ht
 obtain ⟨v, hv, rfl⟩ := List.mem_map.mp ht
 exact join_ok (ha u hu) (hb v hv).ge
theorem lin_one (n : Int) {x : Mono} (hx : Mk x) (F : Mono → Int) : ∀ {b : List Term}, Tk b → lin (b.map fun u => (n * u.1, joinM x u.2)) F = n * lin b fun y => F (mulM x y)
 | [], _ => by rw [List.map_nil, lin_nil, lin_nil, Int.mul_zero]
 | u :: b, hb => by
  obtain ⟨h1, h2⟩ := hb.cons
  rw [List.map_cons, lin_cons, lin_cons, lin_one n hx F h2, mul_sortr hx h1, Int.mul_add, Int.mul_assoc]
  rfl
theorem lin_prod (F : Mono → Int) (hb : Tk b) : ∀ {a : List Term}, Tk a → lin (prodT a b) F = lin a fun x => lin b fun y => F (mulM x y)
 | [], _ => rfl
 | t :: a, ha => by
  obtain ⟨h1, h2⟩ := ha.cons
  show lin ((b.map fun u => (t.1 * u.1, joinM t.2 u.2)) ++ prodT a b) F = _
  rw [lin_app, lin_cons, lin_prod F hb h2, lin_one t.1 h1 F hb]
  congr 2
  exact lin_congr fun u hu => by rw [mul_sortl h1 ((hb u hu).sort)]
theorem Eqv.prod (ha : Tk a) (hb : Tk b) (hc : Tk c) (hd : Tk d) (h : Eqv p a c) (g : Eqv p b d) : Eqv p (prodT a b) (prodT c d) := fun F => by
 rw [lin_prod F hb ha, lin_prod F hd hc, h]
 exact lin_congr_mod fun t _ => g _
end
def powT (T : List Term) : Nat → List Term
 | 0 => [(1, [])]
 | e + 1 => prodT (powT T e) T
theorem tk_one (n : Int) : Tk [(n, [])] := fun t ht => by rw [List.mem_singleton.mp ht]; exact mk_nil
theorem Tk.pow {T : List Term} (h : Tk T) : ∀ e, Tk (powT T e)
 | 0 => tk_one 1
 | e + 1 => (Tk.pow h e).prod h
theorem Eqv.pow {p : Int} {T U : List Term} (hT : Tk T) (hU : Tk U) (h : Eqv p T U) : ∀ e, Eqv p (powT T e) (powT U e)
 | 0 => .refl _
 | e + 1 => Eqv.prod (hT.pow e) hT (hU.pow e) hU (Eqv.pow hT hU h e) h
def putT (A : List Term) (x : Str) (P : Nat → List Term) : List Term := A.flatMap fun t => (P (pow t.2 x).toNat).map fun u => (t.1 * u.1, joinM (outM t.2 x) u.2)
theorem lin_putT {P : Nat → List Term} (hP : ∀ e, Tk (P e)) (x : Str) (F : Mono → Int) : ∀ {A : List Term}, Tk A → lin (putT A x P) F = lin A fun m => lin (P (pow m x).toNat) fun u => F (mulM (outM m x) u)
 | [], _ => rfl
 | t :: A, h => by
  obtain ⟨h1, h2⟩ := h.cons
  show lin (((P (pow t.2 x).toNat).map fun u => (t.1 * u.1, joinM (outM t.2 x) u.2)) ++ putT A x P) F = _
  rw [lin_app, lin_cons, lin_putT hP x F h2, lin_one t.1 (h1.out x) F (hP _), pow_sort h1]
  congr 2
  refine lin_congr fun u hu => ?_
  have hu := (hP _ u hu).sort
  rw [← mul_sortl (h1.out x) hu, ← mul_sortl (h1.sort.out x) hu, out_sort h1]
theorem Tk.put {A : List Term} {P : Nat → List Term} (h : Tk A) (hP : ∀ e, Tk (P e)) (x : Str) : Tk (putT A x P) := fun t ht => by
 obtain ⟨u, hu, ht⟩ := List.mem_flatMap.mp ht
 obtain ⟨v, hv, rfl⟩ := List.mem_map.mp ht
 exact join_ok ((h u hu).out x) (hP _ v hv).ge
theorem Eqv.put {p : Int} {A B : List Term} {P Q : Nat → List Term} (hA : Tk A) (hB : Tk B) (hP : ∀ e, Tk (P e)) (hQ : ∀ e, Tk (Q e)) (x : Str) (h : Eqv p A B) (g : ∀ e, Eqv p (P e) (Q e)) : Eqv p (putT A x P) (putT B x Q) := fun F => by
 rw [lin_putT hP x F hA, lin_putT hQ x F hB, h]
 exact lin_congr_mod fun t _ => g _ _
def LeT (x : Str) (n : Int) (ts : List Term) : Prop := ∀ t ∈ ts, FP.pow t.2 x ≤ n
theorem LeT.app {x : Str} {n : Int} {a b : List Term} (ha : LeT x n a) (hb : LeT x n b) : LeT x n (a ++ b) := fun t ht => (List.mem_append.mp ht).elim (ha t) (hb t)
theorem LeT.prod {x : Str} {n m : Int} {a b : List Term} (hb : Tk b) (h : LeT x n a) (g : LeT x m b) : LeT x (n + m) (prodT a b) := fun t ht => by
 obtain ⟨u, hu, ht⟩ := List.mem_flatMap.mp ht
 obtain ⟨w, hw, rfl⟩ := List.mem_map.mp ht
 have := h u hu
 have := g w hw
 rw [pow_join (hb w hw).nd]
 omega
end FP
set_option Elab.async false
set_option linter.all false
set_option maxRecDepth 100000
set_option maxHeartbeats 4000000
namespace DK
open PySem PySem.Spec PyProof.Rows L2 DL DF
section
variable {X : Cx} {P : Program} {w : World} {K : PySem.W.Frag} {pos cpos apos pos' : Pos} {o e f i value : Expr} {td ty tx tv : TE}
theorem ixN (hu : X.A.units + 64 < cLine) (hP : X.prog = P := by rfl) (hw : X.w = w := by rfl) (h : X.K = K := by rfl) : IxR X (rIxN P w K) := by subst h hP hw; exact ix_N hu
end
end DK
set_option Elab.async false
set_option linter.all false
set_option maxRecDepth 100000
set_option maxHeartbeats 4000000
namespace FP
open PySem DL L2 DF
open PySem.W (AllAlike)
end FP
set_option Elab.async false
set_option linter.all false
set_option maxRecDepth 100000
set_option maxHeartbeats 4000000
namespace DF
open PySem PySem.Spec PyProof.Rows L2
open PySem.W (EachIs)
structure ZSt (h : Heap) (z TI TO i1 i2 l1 l2 S : Addr) (xs ys : Array Value) (k : Nat) : Prop where
 ti : IsPair h TI (.ref i1) (.ref i2)
 h1 : h.IsListIter i1 l1 k
 h2 : h.IsListIter i2 l2 k
 a1 : h.IsList l1 xs
 a2 : h.IsList l2 ys
 st : (IsZip h z TI TO .none ∧ ∃ a b, IsPair h TO a b) ∨ ∃ T f oT, IsZipHeld h z TI TO T f ∧ h.get? T = some oT ∧ T ≠ z ∧ T ≠ i1 ∧ T ≠ i2 ∧ T ≠ S
structure ZOff (z TI TO i1 i2 l1 l2 S : Addr) : Prop where
 z : S ≠ z
 ti : S ≠ TI
 to : S ≠ TO
 i1 : S ≠ i1
 i2 : S ≠ i2
 l1 : S ≠ l1
 l2 : S ≠ l2
section
variable {prog : Program} {w : World} {A : Around} {E : Value → Shared → Prop} {s : Shared} {z TI TO i1 i2 l1 l2 S : Addr} {xs ys : Array Value}
theorem ZSt.keep {h h' : Heap} {k : Nat} (x : ZSt h z TI TO i1 i2 l1 l2 S xs ys k) (o : ZOff z TI TO i1 i2 l1 l2 S) (hk : ∀ b u, b ≠ S → h.get? b = some u → h'.get? b = some u) : ZSt h' z TI TO i1 i2 l1 l2 S xs ys k := by
 refine ⟨hk _ _ o.ti.symm x.ti, x.h1.at fun u e => hk _ u o.i1.symm e, x.h2.at fun u e => hk _ u o.i2.symm e, x.a1.at fun u e => hk _ u o.l1.symm e, x.a2.at fun u e => hk _ u o.l2.symm e, ?_⟩
 rcases x.st with ⟨hz, a, b, hTO⟩ | ⟨T, f, oT, hz, hT, r1, r2, r3, r4⟩
 ·exact .inl ⟨hk _ _ o.z.symm hz, a, b, hk _ _ o.to.symm hTO⟩
 ·exact .inr ⟨T, f, oT, hk _ _ o.z.symm hz, hk _ _ r4 hT, r1, r2, r3, r4⟩
structure LzG (xs ys : Array Value) (h : Heap) (lo : Addr) (as : List Addr) : Prop where
 above : ∀ a ∈ as, lo < a
 pairs : ∀ (j : Nat) (a : Addr), as[j]? = some a → ∃ x y, xs[j]? = some x ∧ ys[j]? = some y ∧ h.get? a = some { cls := .type "tuple", data := .seq #[x, y] }
end
section
variable {prog : Program} {w : World} {A : Around} {s : Shared} {R : Result → Shared → Prop} {z TI TO i1 i2 l1 l2 S : Addr} {xs ys : Array Value}
theorem ap {a S z : Addr} (h : S < a) (l : z ≤ S) : a ≠ z := Nat.ne_of_gt (Nat.lt_of_le_of_lt l h)
end
section
variable {prog : Program} {w : World} {A : Around} {E : Value → Shared → Prop} {s : Shared} {z TI TO i1 i2 l1 l2 : Addr} {xs ys : Array Value}
end
end DF
namespace DF
open PySem PySem.Spec PySem.Calls PyProof.Rows L2 LiI
open PySem.W (EachIs)
section
variable {X : Cx}
end
end DF
set_option Elab.async false
set_option linter.all false
set_option maxRecDepth 100000
set_option maxHeartbeats 4000000
namespace DF
open PySem PySem.Spec PyProof.Rows L2
end DF
namespace DL
open PySem PySem.Spec PyProof.Rows L2 DX DF
section
variable {c : Cn} {ς : Sta}
end
end DL
namespace DK
open PySem PySem.Spec PyProof.Rows L2 DL DF
section
variable {X : Cx} {K : PySem.W.Frag}
end
end DK
set_option Elab.async false
set_option linter.all false
set_option maxRecDepth 100000
set_option maxHeartbeats 4000000
namespace DF
open PySem PySem.Spec PyProof.Rows L2 LiI
open PySem.W (EachIs)
end DF
namespace DL
open PySem PySem.Spec PyProof.Rows L2 DX DF
end DL
namespace DK
open PySem PySem.Spec PyProof.Rows L2 DL DF
end DK
set_option Elab.async false
set_option linter.all false
set_option maxRecDepth 100000
set_option maxHeartbeats 4000000
namespace DF
open PySem PySem.Spec PyProof.Rows L2
end DF
namespace DL
open PySem PySem.Spec PyProof.Rows L2 DX DF
section
variable {c : Cn} {ς : Sta} {Ψ : Psi}
end
end DL
namespace DK
open PySem PySem.Spec PyProof.Rows L2 DL DF
end DK
set_option Elab.async false
set_option linter.all false
set_option maxRecDepth 100000
set_option maxHeartbeats 4000000
namespace DF
open PySem PySem.Spec PySem.Calls PyProof.Rows
open PySem.W (InstAt Looks)
section
variable {prog : Program} {w : World} {A : Around} {E : Value → Shared → Prop} {s : Shared} {K : PySem.W.Frag} {h₀ : Heap} {L x f C : Addr} {ox : Obj} {od : Option Obj} {m : Str → Option Value}
end
end DF
namespace DL
open PySem PySem.Spec PyProof.Rows L2 DX
section
variable {X : Cx} {C : Addr} {sp : Sp} {E : XK} {k j : Nat}
end
section
variable {c : Cn} {ς : Sta} {Ψ : Psi}
end
end DL
namespace DK
open PySem PySem.Spec PyProof.Rows L2 DX DL
section
variable {X : Cx} {P : Program} {w : World} {K : PySem.W.Frag} {mg : Str → Option Value} {base : Heap} {A : Around} {C : Addr} {sp : Sp} {E : XK} {k j : Nat}
end
end DK
set_option Elab.async false
set_option linter.all false
set_option maxRecDepth 100000
set_option maxHeartbeats 4000000
namespace DL
open PySem PySem.Spec PyProof.Rows L2 DX
def deS : Value → Option Str
 | .str x _ => some x
 | _ => none
structure StT (K : PySem.W.Frag) (a : Addr) (xs : List Str) : Prop where
 at_ : ∃ od its n sl, K.lookup a = some ⟨.type "tuple", od, .seq its n, sl⟩ ∧ its.toList.map deS = xs.map some
 few : xs.length ≤ 1000
section
variable {c : Cn} {ς : Sta} {Φ : D → Sta → Prop} {Ψ : Psi}
end
end DL
set_option Elab.async false
set_option linter.all false
set_option maxRecDepth 100000
set_option maxHeartbeats 4000000
namespace DL
open PySem PySem.Spec PyProof.Rows L2 DX
section
variable {c : Cn} {ς : Sta} {Φ : D → Sta → Prop} {Ψ : Psi}
end
end DL
set_option Elab.async false
set_option linter.all false
set_option maxRecDepth 100000
set_option maxHeartbeats 4000000
namespace DF
open PySem PySem.Spec PyProof.Rows L2
end DF
namespace DL
open PySem PySem.Spec PyProof.Rows L2 DX DF
section
variable {c : Cn} {ς : Sta}
end
end DL
namespace DK
open PySem PySem.Spec PyProof.Rows L2 DL DF
end DK
set_option Elab.async false
set_option linter.all false
set_option maxRecDepth 100000
set_option maxHeartbeats 4000000
namespace DL
open PySem PySem.Spec PyProof.Rows L2
section
variable {c : Cn} {ς : Sta}
end
end DL
set_option Elab.async false
set_option linter.all false
set_option maxRecDepth 100000
set_option maxHeartbeats 4000000
namespace DL
open PySem PySem.Spec PyProof.Rows L2 DX
open PySem.SeqAt AutoSeq1 MeetsSeq
end DL
namespace DK
open PySem PySem.Spec PyProof.Rows L2 DL
end DK
set_option Elab.async false
set_option linter.all false
set_option maxRecDepth 100000
set_option maxHeartbeats 4000000
namespace DY
open PySem PySem.Spec PyProof.Rows L2 He
def clsB (K : PySem.W.Frag) (C : Addr) : Bool := match K.lookup C with
 | some ⟨.type "type", _, .cls cd, sl⟩ => (match cd.mro, sl.toList with
  | .ref C' :: bm, [_, _, _, _, some (.builtin n), _] => C' == C && n == "ValueError.__new__" && !cd.hasDel && cd.hasDict && PySem.HandSPX.refsVE bm
  | _, _ => false)
 | _ => false
theorem clsB_ok {K : PySem.W.Frag} {C : Addr} (q : clsB K C = true) : ∃ nm q N bs bm sn sub ab col dd k0 k1 k2 k3 k5, K.lookup C = some (excClassObj nm q C N bs bm true sn sub ab col dd k0 k1 k2 k3 k5 "ValueError.__new__") ∧ PySem.HandSPX.refsVE bm = true := by
 unfold clsB at q
 split at q
 ·rename_i dd cd sl ho
  split at q
  ·rename_i C' bm k0 k1 k2 k3 n k5 hm hs
   simp only [Bool.and_eq_true, beq_iff_eq, Bool.not_eq_true'] at q
   obtain ⟨⟨⟨⟨rfl, rfl⟩, hdel⟩, hd'⟩, ht⟩ := q
   obtain ⟨nm, bs, mro, ns, qn, hd, sn, sub, ab, col, del⟩ := cd
   dsimp only at hm hdel hd'
   subst hm hdel hd'
   have hsl : sl = #[k0, k1, k2, k3, some (.builtin "ValueError.__new__"), k5] := by
    obtain ⟨l⟩ := sl
    simp only at hs
    rw [hs]
   subst hsl
   exact ⟨nm, qn, ns, bs, bm, sn, sub, ab, col, dd, k0, k1, k2, k3, k5, ho, ht⟩
  ·cases q
 ·cases q
abbrev ini (K : PySem.W.Frag) (x : Str) : Addr := ma K (ga K x) "__init__"
abbrev ExV : Type := Option (Str × Str × Arguments × FuncBody × Scope)
def exF (K : PySem.W.Frag) (x : Str) : ExV := match K.lookup (ini K x) with
 | some ⟨_, _, .func fd, _⟩ => some (fd.name, fd.qualname, fd.params, fd.body, fd.scope)
 | _ => none
def fnB (K : PySem.W.Frag) (file : Str) (x q : Str) : Bool := match K.lookup (ini K x) with
 | some ⟨_, _, .func ⟨_, _, _, _, _, g, clo, .none, .none, _, _, _, .ref cda, _, b⟩, _⟩ => g == mainGlobals && b == builtinsNs && PySem.W.codeIn K (.ref cda) q &&
  (match clo with
   | [(y, cc)] => y == "__class__" && (match K.lookup cc with
    | some ⟨_, _, .cell (some (.ref C)), _⟩ => C == ga K x
    | _ => false)
   | _ => false) &&
  (match K.lookup cda with
   | some ⟨_, _, .fields vs, _⟩ => (match (vs[2]? : Option Value) with
    | some (.str f _) => file == f
    | _ => false)
   | _ => false)
 | _ => false
structure XD where
 x : Str
 fs : List Str
 qual : Str
 params : Arguments
 body : List Stmt
 scope : Scope
def XD.val (d : XD) : ExV := some ("__init__", d.qual, d.params, .stmts d.body, d.scope)
def XD.ok (K : PySem.W.Frag) (file : Str) (d : XD) : Bool :=
 (Fa.glo d.x).ok K && clsB K (ga K d.x) && eqO (PySem.W.findIn K (.ref (ga K d.x)) "__setattr__") (some (some (.builtin "object.__setattr__"))) && xfB K (ga K d.x) &&
 d.fs.all (fun f => eqO (PySem.W.findIn K (.ref (ga K d.x)) f) (some none)) && eqO (PySem.W.findIn K (.ref (ga K d.x)) "__init__") (some (some (.ref (ini K d.x)))) &&
 decide (PySem.W.typeIn K (.ref (ini K d.x)) = some (.type "function")) && PySem.W.keepIn K (.ref (ga K d.x)) && decide (PySem.W.typeIn K (.ref (ga K d.x)) = some (.type "type")) &&
 decide (PySem.W.subIn K (.ref (ga K d.x)) (.type "ValueError") = some true) && decide (PySem.W.exmOne K (.ref (ga K d.x)) (.ref (ga K d.x)) = some true) &&
 eqO (PySem.W.ks_superIn K (ga K d.x) (ga K d.x) "__init__") (some (some (.builtin "ValueError.__init__"))) && decide (PySem.W.mroIn K (ga K d.x) (.ref (ga K d.x)) = some true) &&
 fnB K file d.x d.qual
structure XShape (d : XD) : Prop where
 sh : DX.Shape d.params d.body d.scope d.fs
 bd : ∀ (doc pm : Value) (an : Option Addr) (cdv ct : Value) (cc : Addr) (us : List Value), us.length = d.fs.length + 1 → bindArgs (PySem.W.ksFn "__init__" d.qual d.params d.body d.scope .none .none doc pm an cdv ct cc) ⟨us, []⟩ = pure ((("self" : Str) :: d.fs).zip us)
theorem XD.txt {P : Program} {K : PySem.W.Frag} {mg : Str → Option Value} {h : Heap} {d : XD} (X : K.In h) (G : h.Ns mainGlobals mg) (e : exF K d.x = d.val) (c : d.ok K P.main.file = true) (S : XShape d) (hs : PySem.W.nsIn K mainGlobals "super" = some none) (ha : PySem.W.nsIn K cStatics "thirdparty.any" = some none)
  (ht : (P.main.scope.names.lookup ("super" : Str)).isSome = false) : DX.Txt P K mg d.x (ga K d.x) (ini K d.x) d.fs := by
 unfold XD.ok at c
 simp only [Bool.and_eq_true, List.all_eq_true, decide_eq_true_eq] at c
 obtain ⟨⟨⟨⟨⟨⟨⟨⟨⟨⟨⟨⟨⟨c1, c2⟩, c3⟩, c4⟩, c5⟩, c6⟩, c7⟩, c8⟩, c9⟩, c10⟩, c11⟩, c12⟩, c13⟩, c14⟩ := c
 refine { gC := glo_ok X G c1, cls := clsB_ok c2, sa := eqO_ok c3, xf := xfB_ok c4, noN := fun f hf => eqO_ok (c5 f hf), iC := eqO_ok c6, tC := c7, kC := c8, tyC := c9, veC := c10, te := c11, sup := eqO_ok c12, hsub := c13, hsuper := hs, any := ha, top := ht, fn := ?_ }
 unfold fnB at c14
 unfold exF at e
 split at c14
 ·rename_i oc od n1 n2 n3 n4 n5 g clo doc pm an cda ct b osl lk
  rw [lk] at e
  have e2 : (some (n1, n2, n3, n4, n5) : ExV) = (some (("__init__" : Str), d.qual, d.params, FuncBody.stmts d.body, d.scope) : ExV) := e
  simp only [Option.some.injEq, Prod.mk.injEq] at e2
  obtain ⟨h1, h2, h3, h4, h5⟩ := e2
  subst h1 h2 h3 h4 h5
  simp only [Bool.and_eq_true, beq_iff_eq] at c14
  obtain ⟨⟨⟨⟨rfl, rfl⟩, z3⟩, z4⟩, z5⟩ := c14
  split at z4
  ·rename_i y cc
   simp only [Bool.and_eq_true, beq_iff_eq] at z4
   obtain ⟨rfl, z4⟩ := z4
   split at z4
   ·rename_i cl cld C csl lc
    have z4 := beq_iff_eq.mp z4
    subst z4
    split at z5
    ·rename_i ccl cdd vs ccs lv
     split at z5
     ·rename_i f tf hv
      exact ⟨oc, ccl, cl, doc, pm, ct, od, an, cdd, cld, osl, ccs, csl, cda, cc, d.qual, d.params, d.body, d.scope, vs, f, tf, lk, z3, S.sh, fun s us hl => .of_eq (S.bd doc pm an (.ref cda) ct cc us hl), lv, hv, z5, lc⟩
     ·cases z5
    ·cases z5
   ·cases z4
  ·cases z4
 ·cases c14
abbrev AlY : Type := (AlT × List ExV) × Bool
def moreY (file : Str) (xs : List XD) (ex : PySem.W.Frag → Bool) (g : Addr → Option Obj) (tf : List Defn) (K : PySem.W.Frag) : Bool :=
 ex K && xs.all (fun d => d.ok K file) && eqO (PySem.W.nsIn K mainGlobals "super") (some none) && eqO (PySem.W.nsIn K cStatics "thirdparty.any") (some none) && tabsB g tf K
def obsK (file : Str) (fa : List Fa) (fn : List DefD) (ts : List Tab) (xs : List XD) (ex : PySem.W.Frag → Bool) (tf : List Defn) (g : Addr → Option Obj) (K : PySem.W.Frag) : AlY := ((obsT fa fn ts K, xs.map fun d => exF K d.x), moreY file xs ex g tf K)
def valY (fn : List DefD) (ts : List Tab) (xs : List XD) (w : World) : AlY := ((valT fn ts w, xs.map XD.val), true)
structure SaysY (file : Str) (fa : List Fa) (fn : List DefD) (ts : List Tab) (xs : List XD) (ex : PySem.W.Frag → Bool) (tf : List Defn) (w : World) (h : Heap) (K : PySem.W.Frag) : Prop where
 t : SaysT fa fn ts w K
 x : ∀ d ∈ xs, exF K d.x = d.val
 ok : ∀ d ∈ xs, d.ok K file = true
 more : ex K = true
 sup : PySem.W.nsIn K mainGlobals "super" = some none
 any : PySem.W.nsIn K cStatics "thirdparty.any" = some none
 hd : ∀ p ∈ tf, PySem.W.codeHdIn K (cT K p).1 (cT K p).2 = true
 out : ∀ p ∈ tf, K.lookup (cT K p).2 = none
 empty : ∀ p ∈ tf, h.get? (cT K p).2 = some { cls := .none, data := .fields #[] }
theorem map_all {α β : Type} {f g : α → β} : ∀ {l : List α}, l.map f = l.map g → ∀ d ∈ l, f d = g d
 | [], _, _, h => nomatch h
 | a :: l, e, d, h => by
  injection e with e1 e2
  rcases List.mem_cons.mp h with rfl | h
  ·exact e1
  ·exact map_all e2 d h
theorem fun_of {K : PySem.W.Frag} {x qual : Str} {st : Stmt} {f : Addr} {fd : FuncData} (F : FunD K x qual (defArgs st) (defBody st) (defScope st) [] [] f fd) : Fun K x qual st f fd := by
 obtain ⟨oc, od, dV, kV, doc, pm, an, cdv, ct, osl, e, lk, hcd, hD, hK⟩ := F.ex
 rcases hD with ⟨_, rfl⟩ | ⟨e, _⟩
 ·exact ⟨⟨oc, od, kV, doc, pm, an, cdv, ct, osl, e, lk, hcd⟩, F.kp⟩
 ·exact absurd rfl e
theorem fun_at {K : PySem.W.Frag} {h : Heap} {mg : Str → Option Value} {file : Str} {fa : List Fa} {fn : List DefD} {ts : List Tab} {xs : List XD} {ex : PySem.W.Frag → Bool} {tf : List Defn} {w : World} (X : K.In h) (G : h.Ns mainGlobals mg) (c : SaysY file fa fn ts xs ex tf w h K) (x : Str) (st : Stmt) (ps : List Str)
  (hd : (⟨(x, none), x, x, defArgs st, defBody st, defScope st, [], []⟩ : DefD) ∈ fn) (hx : Fa.glo x ∈ fa)
  (hb : ∀ (kV doc pm : Value) (an : Option Addr) (cdv ct : Value) (us : List Value), us.length = ps.length → bindArgs (PySem.W.fnOf x x (defArgs st) (defBody st) (defScope st) .none kV doc pm an cdv ct) ⟨us, []⟩ = pure (ps.zip us)) :
  ∃ (a : Addr) (fd : FuncData), Fun K x x st a fd ∧ mg x = some (.ref a) ∧ Binds K fd ps [] := by
 obtain ⟨fd, F⟩ := SaysD.defs c.t.d hd
 have F2 := fun_of F
 exact ⟨_, fd, F2, glo_ok X G (SaysD.facts c.t.d hx), F2.binds hb⟩
theorem free_at {K : PySem.W.Frag} {h : Heap} {mg : Str → Option Value} {file : Str} {fa : List Fa} {fn : List DefD} {ts : List Tab} {xs : List XD} {ex : PySem.W.Frag → Bool} {tf : List Defn} {w : World} (X : K.In h) (G : h.Ns mainGlobals mg) (c : SaysY file fa fn ts xs ex tf w h K) {x : Str} (hx : Fa.free x ∈ fa) : mg x = none := free_ok X G (SaysD.facts c.t.d hx)
theorem code_at {K : PySem.W.Frag} {h : Heap} {mg : Str → Option Value} {file : Str} {fa : List Fa} {fn : List DefD} {ts : List Tab} {xs : List XD} {ex : PySem.W.Frag → Bool} {tf : List Defn} {w : World} (X : K.In h) (G : h.Ns mainGlobals mg) (c : SaysY file fa fn ts xs ex tf w h K) {x : Str} (hx : Fa.glo x ∈ fa) {a : Addr} {oc : Value} {od : Option Addr} {fd : FuncData} {osl : Array (Option Value)} {cc : Addr}
  (hm : mg x = some (.ref a)) (lk : K.lookup a = some ⟨oc, od, .func fd, osl⟩) (e : fd.code = .ref cc) : cc = codeOf K (x, none) := by
 have e1 := hm.symm.trans (glo_ok X G (SaysD.facts c.t.d hx))
 cases e1
 exact (codeOf_eq (p := (x, none)) lk e).symm
section
variable {K : PySem.W.Frag} {h : Heap} {mg : Str → Option Value} {file : Str} {fa : List Fa} {fn : List DefD} {ts : List Tab} {xs : List XD} {ex : PySem.W.Frag → Bool} {tf : List Defn} {w : World}
theorem glo_at (X : K.In h) (G : h.Ns mainGlobals mg) (c : SaysY file fa fn ts xs ex tf w h K) {x : Str} (hx : Fa.glo x ∈ fa) : mg x = some (.ref (ga K x)) := glo_ok X G (SaysD.facts c.t.d hx)
end
end DY
set_option Elab.async false
set_option linter.all false
set_option maxRecDepth 100000
set_option maxHeartbeats 4000000
namespace DY
open PySem PySem.W PySem.Spec PyProof.Rows L2 He HandSHeadRun
def addNew : List Addr → Nat → List Addr → List Addr × Nat
 | [], m, acc => (acc, m)
 | a :: r, m, acc => match Nat.beq (Nat.land 1 (Nat.shiftRight m a)) 1 with
  | true => addNew r m acc
  | false => frNat (Nat.lor m (Nat.shiftLeft 1 a)) fun m => addNew r m (a :: acc)
def lvl (g : Addr → Option Obj) : Nat → List Addr → Nat → List Addr
 | 0, new, _ => new
 | n + 1, new, m => match addNew (new.flatMap fun a => match g a with
   | some o => refsD o
   | none => []) m [] with
  | (nx, m') => new ++ lvl g n nx m'
def asZ (g : Addr → Option Obj) : List Addr := lvl g 5 [mainGlobals] (Nat.shiftLeft 1 mainGlobals) ++ [cStatics]
abbrev frK (s : SharedT) : PySem.W.Frag := frT (getT s) (asZ (getT s))
noncomputable abbrev En (r : OpenRow) (w : World) (os : OsState) : Option SharedT := endF (stepQ (denQ tabQ) r.prog w) 14000 r.prog w os
def PA (r : OpenRow) (w : World) : Prop := ∀ os, (En r w os).map (fun s => looksF r.prog (boot_heap w.params) s.abs) = some true
def PB (r : OpenRow) (q : Program) (loose : List PySem.Str) (w : World) : Prop := ∀ os, (En r w os).map (fun s => seenQ q loose (importedModules r.prog.main.body) (fun s => xlAt q [] s && recOk r.toRowW.records s) s.abs) = some (openGood q loose)
def PF (r : OpenRow) (fa : List Fa) (w : World) : Prop := ∀ os, (En r w os).map (fun s => fa.all fun f => f.ok (frK s)) = some true
def PD (r : OpenRow) (fn : List DefD) (w : World) : Prop := ∀ os, (En r w os).map (fun s => (fn.all fun d => d.ok (frK s), fn.map fun d => fnW (frK s) d.at_)) = some (true, fn.map DefD.val)
def PX (r : OpenRow) (file : Str) (xs : List XD) (w : World) : Prop := ∀ os, (En r w os).map (fun s => (xs.all fun d => d.ok (frK s) file, xs.map fun d => exF (frK s) d.x)) = some (true, xs.map XD.val)
def PM (r : OpenRow) (ex : PySem.W.Frag → Bool) (tf : List Defn) (w : World) : Prop := ∀ os, (En r w os).map (fun s => ex (frK s) && eqO (PySem.W.nsIn (frK s) mainGlobals "super") (some none) && eqO (PySem.W.nsIn (frK s) cStatics "thirdparty.any") (some none) && tabsB (getT s) tf (frK s)) = some true
theorem PF.app {r : OpenRow} {a b : List Fa} {w : World} (h1 : PF r a w) (h2 : PF r b w) : PF r (a ++ b) w := fun os => by
 have h1 := h1 os
 have h2 := h2 os
 cases e : En r w os with
 | none => rw [e] at h1; cases h1
 | some s =>
  rw [e] at h1 h2
  have h1 := Option.some.inj h1
  have h2 := Option.some.inj h2
  dsimp only at h1 h2
  show some ((a ++ b).all fun f => f.ok (frK s)) = _
  rw [List.all_append, h1, h2]
  rfl
theorem PD.app {r : OpenRow} {a b : List DefD} {w : World} (h1 : PD r a w) (h2 : PD r b w) : PD r (a ++ b) w := fun os => by
 have h1 := h1 os
 have h2 := h2 os
 cases e : En r w os with
 | none => rw [e] at h1; cases h1
 | some s =>
  rw [e] at h1 h2
  have h1 := Option.some.inj h1
  have h2 := Option.some.inj h2
  have a1 := congrArg Prod.fst h1
  have a2 := congrArg Prod.snd h1
  have b1 := congrArg Prod.fst h2
  have b2 := congrArg Prod.snd h2
  dsimp only at a1 a2 b1 b2
  show some ((a ++ b).all (fun d => d.ok (frK s)), (a ++ b).map fun d => fnW (frK s) d.at_) = _
  rw [List.all_append, List.map_append, List.map_append, a1, a2, b1, b2]
  rfl
theorem saysZ_of {as : List Addr} {file : Str} {fa : List Fa} {fn : List DefD} {ts : List Tab} {xs : List XD} {ex : PySem.W.Frag → Bool} {tf : List Defn} {w : World} {h : Heap} (e : obsK file fa fn ts xs ex tf h.get? (frT h.get? as) = valY fn ts xs w) : SaysY file fa fn ts xs ex tf w h (frT h.get? as) := by
 have e1 : obsT fa fn ts (frT h.get? as) = valT fn ts w := congrArg (fun z : AlY => z.1.1) e
 have e2 : (xs.map fun d => exF (frT h.get? as) d.x) = xs.map XD.val := congrArg (fun z : AlY => z.1.2) e
 have e3 : moreY file xs ex h.get? tf (frT h.get? as) = true := congrArg (fun z : AlY => z.2) e
 unfold moreY at e3
 obtain ⟨e3, e4⟩ := ba e3
 obtain ⟨e3, e5⟩ := ba e3
 obtain ⟨e3, e6⟩ := ba e3
 obtain ⟨e7, e3⟩ := ba e3
 have key : ∀ p ∈ tf, PySem.W.codeHdIn (frT h.get? as) (cT (frT h.get? as) p).1 (cT (frT h.get? as) p).2 = true ∧ ∃ o, h.get? (cT (frT h.get? as) p).2 = some o ∧ emptyTab o = true := fun p hp => by
  obtain ⟨h3, h4⟩ := ba (List.all_eq_true.mp e4 p hp)
  refine ⟨h3, ?_⟩
  cases q : h.get? (cT (frT h.get? as) p).2 with
  | none =>
   rw [q] at h4
   cases h4
  | some o =>
   rw [q] at h4
   exact ⟨o, rfl, h4⟩
 exact ⟨e1, map_all e2, fun d hd => List.all_eq_true.mp e3 d hd, e7, eqO_ok e6, eqO_ok e5, fun p hp => (key p hp).1, fun p hp => by
  obtain ⟨_, o, q, z⟩ := key p hp
  exact frT_none q z, fun p hp => by
  obtain ⟨_, o, q, z⟩ := key p hp
  rw [q, emptyTab_eq z]⟩
def hookZ (file : Str) (fa : List Fa) (fn : List DefD) (ts : List Tab) (xs : List XD) (ex : PySem.W.Frag → Bool) (tf : List Defn) : PySem.W.Hook where
 α := AlY
 obs := fun s => obsK file fa fn ts xs ex tf s.heap.get? (frT s.heap.get? (asZ s.heap.get?))
 val := fun w => valY fn ts xs w
 says := fun w h => ∃ K : PySem.W.Frag, K.In h ∧ SaysY file fa fn ts xs ex tf w h K
 of := fun _ _ e => ⟨_, frT_in, saysZ_of e⟩
 keeps := fun _ _ _ ⟨K, hK, c⟩ k => ⟨K, PySem.W.Frag.In.keeps hK k, ⟨c.t, c.x, c.ok, c.more, c.sup, c.any, c.hd, c.out, fun p hp => k _ _ (c.empty p hp)⟩⟩
def obsZ (file : Str) (fa : List Fa) (fn : List DefD) (ts : List Tab) (xs : List XD) (ex : PySem.W.Frag → Bool) (tf : List Defn) (g : Addr → Option Obj) : AlY := obsK file fa fn ts xs ex tf g (frT g (asZ g))
theorem obsZ_eq {file : Str} {fa : List Fa} {fn : List DefD} {ts : List Tab} {xs : List XD} {ex : PySem.W.Frag → Bool} {tf : List Defn} {g : Addr → Option Obj} {s : Shared} (h : ∀ a, g a = s.heap.get? a) : obsZ file fa fn ts xs ex tf g = (hookZ file fa fn ts xs ex tf).obs s := by
 have e : g = s.heap.get? := funext h
 rw [e] <;> rfl
theorem run_of {r : OpenRow} {q : Program} {fa : List Fa} {fn : List DefD} {xs : List XD} {ex : PySem.W.Frag → Bool} {tf : List Defn} {loose : List PySem.Str} {w : World} (hA : PA r w) (hB : PB r q loose w) (hF : PF r fa w) (hD : PD r fn w) (hX : PX r r.prog.main.file xs w) (hM : PM r ex tf w) :
  RunEq r q (hookZ r.prog.main.file fa fn [] xs ex tf) (fun s => obsZ r.prog.main.file fa fn [] xs ex tf (getT s)) 14000 loose w := fun os => by
 have hA := hA os
 have hB := hB os
 have hF := hF os
 have hD := hD os
 have hX := hX os
 have hM := hM os
 show (En r w os).map _ = _
 cases e : En r w os with
 | none => rw [e] at hA; cases hA
 | some s =>
  rw [e] at hA hB hF hD hX hM
  have hA := Option.some.inj hA
  have hB := Option.some.inj hB
  have hF := Option.some.inj hF
  have hD := Option.some.inj hD
  have hX := Option.some.inj hX
  have hM := Option.some.inj hM
  have d1 := congrArg Prod.fst hD
  have d2 := congrArg Prod.snd hD
  have x1 := congrArg Prod.fst hX
  have x2 := congrArg Prod.snd hX
  dsimp only at d1 d2 x1 x2 hF hM hA hB
  show some (looksF r.prog (boot_heap w.params) s.abs, seenQ q loose (importedModules r.prog.main.body) (fun s => xlAt q [] s && recOk r.toRowW.records s) s.abs, obsK r.prog.main.file fa fn [] xs ex tf (getT s) (frK s)) = _
  have eo : obsK r.prog.main.file fa fn [] xs ex tf (getT s) (frK s) = valY fn [] xs w := by
   unfold obsK valY
   have e1 : obsT fa fn [] (frK s) = valT fn [] w := by
    show (((fa.all fun f => f.ok (frK s)) && fn.all fun d => d.ok (frK s), fn.map fun d => fnW (frK s) d.at_), []) = ((true, fn.map DefD.val), [])
    rw [hF, d1, d2]
    rfl
   have e2 : moreY r.prog.main.file xs ex (getT s) tf (frK s) = true := by
    unfold moreY
    rw [x1]
    simp only [Bool.and_eq_true] at hM ⊢
    obtain ⟨⟨⟨m1, m2⟩, m3⟩, m4⟩ := hM
    exact ⟨⟨⟨⟨m1, trivial⟩, m2⟩, m3⟩, m4⟩
   rw [e1, e2, x2]
  rw [hA, hB, eo]
  rfl
def PAB (r : OpenRow) (q : Program) (loose : List PySem.Str) (w : World) : Prop := ∀ os, (En r w os).map (fun s => (looksF r.prog (boot_heap w.params) s.abs, seenQ q loose (importedModules r.prog.main.body) (fun s => xlAt q [] s && recOk r.toRowW.records s) s.abs)) = some (true, openGood q loose)
theorem PAB.a {r : OpenRow} {q : Program} {loose : List PySem.Str} {w : World} (h : PAB r q loose w) : PA r w := fun os => by
 have h := h os
 cases e : En r w os with
 | none => rw [e] at h; cases h
 | some s =>
  rw [e] at h
  exact congrArg some (congrArg Prod.fst (Option.some.inj h))
theorem PAB.b {r : OpenRow} {q : Program} {loose : List PySem.Str} {w : World} (h : PAB r q loose w) : PB r q loose w := fun os => by
 have h := h os
 cases e : En r w os with
 | none => rw [e] at h; cases h
 | some s =>
  rw [e] at h
  exact congrArg some (congrArg Prod.snd (Option.some.inj h))
end DY
set_option Elab.async false
set_option linter.all false
set_option maxRecDepth 100000
set_option maxHeartbeats 4000000
namespace DY
open PySem PySem.W PySem.Spec PyProof.Rows L2 He HandSHeadRun
def PFXM (r : OpenRow) (fa : List Fa) (file : Str) (xs : List XD) (ex : PySem.W.Frag → Bool) (tf : List Defn) (w : World) : Prop := ∀ os, (En r w os).map (fun s => (fa.all fun f => f.ok (frK s), ((xs.all fun d => d.ok (frK s) file, xs.map fun d => exF (frK s) d.x), ex (frK s) && eqO (PySem.W.nsIn (frK s) mainGlobals "super") (some none) && eqO (PySem.W.nsIn (frK s) cStatics "thirdparty.any") (some none) && tabsB (getT s) tf (frK s)))) = some (true, ((true, xs.map XD.val), true))
theorem PFXM.f {r : OpenRow} {fa : List Fa} {file : Str} {xs : List XD} {ex : PySem.W.Frag → Bool} {tf : List Defn} {w : World} (h : PFXM r fa file xs ex tf w) : PF r fa w := fun os => by
 have h := h os
 cases e : En r w os with
 | none => rw [e] at h; cases h
 | some s =>
  rw [e] at h
  exact congrArg some (congrArg Prod.fst (Option.some.inj h))
theorem PFXM.x {r : OpenRow} {fa : List Fa} {file : Str} {xs : List XD} {ex : PySem.W.Frag → Bool} {tf : List Defn} {w : World} (h : PFXM r fa file xs ex tf w) : PX r file xs w := fun os => by
 have h := h os
 cases e : En r w os with
 | none => rw [e] at h; cases h
 | some s =>
  rw [e] at h
  exact congrArg some (congrArg (fun z => z.2.1) (Option.some.inj h))
theorem PFXM.m {r : OpenRow} {fa : List Fa} {file : Str} {xs : List XD} {ex : PySem.W.Frag → Bool} {tf : List Defn} {w : World} (h : PFXM r fa file xs ex tf w) : PM r ex tf w := fun os => by
 have h := h os
 cases e : En r w os with
 | none => rw [e] at h; cases h
 | some s =>
  rw [e] at h
  exact congrArg some (congrArg (fun z => z.2.2) (Option.some.inj h))
theorem run_of3 {r : OpenRow} {q : Program} {fa : List Fa} {fn : List DefD} {xs : List XD} {ex : PySem.W.Frag → Bool} {tf : List Defn} {loose : List PySem.Str} {w : World} (hA : PAB r q loose w) (hF : PFXM r fa r.prog.main.file xs ex tf w) (hD : PD r fn w) :
  RunEq r q (hookZ r.prog.main.file fa fn [] xs ex tf) (fun s => obsZ r.prog.main.file fa fn [] xs ex tf (getT s)) 14000 loose w := run_of hA.a hA.b hF.f hD hF.x hF.m
end DY
set_option Elab.async false
set_option linter.all false
set_option maxRecDepth 100000
set_option maxHeartbeats 4000000
namespace DL
open PySem PySem.Spec PyProof.Rows L2
def tApp (t : TA) (ds : List V) : TA := fun σ H Q => t σ H fun vs H1 => Q (vs ++ ds) H1
theorem tMake_app (C : Addr) (sp : Sp) (dvs : List V) (E : XK) (t : TA) : tMake C sp dvs E t = tMake C sp [] E (tApp t dvs) := by
 unfold tMake tApp
 funext σ H Q
 simp only [List.append_nil]
structure MakXD (P : Program) (w : World) (K : PySem.W.Frag) (mg : Str → Option Value) (base : Heap) (k : Nat) (x : Str) (C : Addr) (dvs : List V) (sp : Sp) : Prop where
 ex : ∃ (f : Addr) (fd : FuncData) (ps : List Str) (ds : List Value), Mk K C f ∧ FnOk P w K mg base (L2.CX P w) k f fd ps sp ∧ mg x = some (.ref C) ∧ Vals dvs ds ∧ Binds K fd ps ds
section
variable {X : Cx} {E : XK} {x m : Str} {C : Addr} {k j : Nat} {sp : Sp} {e o : Expr} {es : List Expr} {t : TA} {to : TE} {p apos pos : Pos} {dvs : List V}
theorem pe_mkxD (c : MakXD X.prog X.w X.K X.mg X.base k x C dvs sp) (hr : Room j X.A) (hk : k + 1 ≤ j) (hg : Gl X x) (hx : Passes (L2.CX X.prog X.w) X E) (ha : PA X (e :: es) t)
  (hdb : (x == ("__debug__" : Str)) = false := by decide) (hs : starEach (e :: es) X.env = (false, eval e X.env) :: starEach es X.env := by rfl) (hpl : (backTo pos (starEach es X.env)).any (·.1) = false := by rfl) :
  PE X (.Call (.Name x p) (e :: es) [] pos) (tMake C sp [] E (tApp t dvs)) := by
 obtain ⟨f, fd, ps, ds, M, F, hm, hv, hb⟩ := c.ex
 rw [← tMake_app]
 exact pe_make M F (hr.mono hk) hg hm hb hv hx ha hdb hs hpl
end
section
variable {P : Program} {w : World} {K : PySem.W.Frag} {mg : Str → Option Value} {base : Heap}
end
end DL
namespace DY
open PySem PySem.Spec PyProof.Rows L2 He
end DY
set_option Elab.async false
set_option linter.all false
set_option maxRecDepth 100000
set_option maxHeartbeats 4000000
namespace DL
open PySem PySem.Spec PyProof.Rows L2 DX DF
end DL
set_option Elab.async false
set_option linter.all false
set_option maxRecDepth 100000
set_option maxHeartbeats 4000000
namespace DL
open PySem PySem.Spec PyProof.Rows L2
section
variable {X : Cx} {a b c d : Expr} {ta tb tc td : TE} {pos : Pos}
end
end DL
set_option Elab.async false
set_option linter.all false
set_option maxRecDepth 100000
set_option maxHeartbeats 4000000
namespace DL
open PySem PySem.Spec PyProof.Rows L2 DX
open PySem.W (EqTree)
open PySem.SeqAt (EqAt)
section
variable {X : Cx}
end
end DL
namespace DK
open PySem PySem.Spec PyProof.Rows L2 DL
end DK
set_option Elab.async false
set_option linter.all false
set_option maxRecDepth 100000
set_option maxHeartbeats 4000000
namespace DL
open PySem PySem.Spec PyProof.Rows L2 DX
end DL
set_option Elab.async false
set_option linter.all false
set_option maxRecDepth 100000
set_option maxHeartbeats 4000000
namespace DL
open PySem PySem.Spec PyProof.Rows L2 DX
section
variable {c : Cn} {ς : Sta} {Φ : D → Sta → Prop} {Ψ : Psi}
end
def SpW {S : Type} (K : PySem.W.Frag) (emb : S → MO) (n : Nat) (pre : List D → Addr → S → Prop) (post : List D → Addr → S → D → S → Prop) : Sp := fun vs H Q _ => vs.length = n ∧
 ∃ (k : Hp) (ds : List D) (o : Addr) (s : S), RepL K k vs ds ∧ Same k H ∧ k o = none ∧ MoR K k H o (emb s) ∧ pre ds o s ∧
  ∀ d s', post ds o s d s' → ∀ v k' h', Grow (fun z => z = o) k H k' h' → MoR K k' h' o (emb s') → Rep K k' v d → Q v h'
def owres (o : Addr) : Res := ⟨fun z => z = o, fun _ _ => True, fun _ _ _ _ h => h⟩
section
variable {P : Program} {w : World} {K : PySem.W.Frag} {mg : Str → Option Value} {base : Heap}
theorem fnW {S : Type} {emb : S → MO} {x qual : Str} {st : Stmt} {f : Addr} {fd : FuncData} {N ps : List Str} {k n : Nat} {pre : List D → Addr → S → Prop} {post : List D → Addr → S → D → S → Prop} (Fn : Fun K x qual st f fd) (Sc : FnScope N ps (defScope st)) (hn : ps.length = n)
  (hbody : ∀ (cdv : Value) (A : Around) (outer : List Env) (sh : Shared) (H : Hp) (E : XK), Room k (A.deeper (envOfC qual (defScope st) sh.heap.objs.size f cdv)) →
   ∃ t, PSs (cxOf (L2.CX P w) P w K mg base N qual (defScope st) f cdv A outer sh H E) (defBody st) t ∧
    ∀ (k0 : Hp) (ds : List D) (o : Addr) (s : S), pre ds o s → ds.length = n →
     WS ⟨K, owres o, k0, H, false, fun _ => none⟩ t { δ := startD N ds, m := [(o, emb s)], b := 0 }
      { nx := fun ς => ∃ s', (o, emb s') ∈ ς.m ∧ post ds o s .non s', rt := fun d ς => ∃ s', (o, emb s') ∈ ς.m ∧ post ds o s d s' }) :
  FnOk P w K mg base (L2.CX P w) (k + 1) f fd ps (SpW K emb n pre post) := by
 refine Fn.okX Sc (fun vs H Q E h => by rw [h.1, hn]) fun cdv A outer sh H vs Q E hr h => ?_
 obtain ⟨t, ht, hw⟩ := hbody cdv A outer sh H E hr
 obtain ⟨hl, k0, ds, o, s, rl, e, ko, hm, hp, hq⟩ := h
 refine ⟨t, ht, ?_⟩
 refine hw k0 ds o s hp (by rw [← rl.length, hl]) (L2.start N vs) k0 H ⟨Grow.refl e, trivial, fun a z => ?_, fun i d q => start_rep rl q, fun p hp => ?_, ?_, start_len rl.length, fun _ _ z => by cases z⟩ _ ⟨fun σ' k' h' ς' S' _ q => ?_, fun _ _ _ _ _ _ q => q.elim, fun _ _ _ _ _ _ q => q.elim, fun v σ' k' h' d ς' S' _ r q => ?_⟩
 ·have z : a = o := z
  subst z
  exact ⟨ko, hm.there⟩
 ·have z := List.mem_singleton.mp hp
  subst z
  exact ⟨ko, .inr ⟨rfl, rfl⟩, hm⟩
 ·show List.Nodup [o]
  simp
 ·obtain ⟨s', hm', hp'⟩ := q
  exact hq .non s' hp' .non k' h' S'.g (S'.m _ hm').2.2 .non
 ·obtain ⟨s', hm', hp'⟩ := q
  exact hq d s' hp' v k' h' S'.g (S'.m _ hm').2.2 r
end
section
variable {c : Cn} {ς : Sta} {Φ : D → Sta → Prop} {Ψ : Psi}
end
end DL
set_option Elab.async false
set_option linter.all false
set_option maxRecDepth 100000
set_option maxHeartbeats 4000000
namespace DL
open PySem PySem.Spec PyProof.Rows L2 DX
section
variable {P : Program} {w : World} {K : PySem.W.Frag} {mg : Str → Option Value} {base : Heap}
end
section
variable {c : Cn} {ς : Sta} {Φ : D → Sta → Prop} {Ψ : Psi}
end
end DL
set_option Elab.async false
set_option linter.all false
set_option maxRecDepth 100000
set_option maxHeartbeats 4000000
namespace DL
open PySem PySem.Spec PyProof.Rows L2
structure CalXD (P : Program) (w : World) (K : PySem.W.Frag) (mg : Str → Option Value) (base : Heap) (k : Nat) (x : Str) (dvs : List V) (sp : Sp) : Prop where
 ex : ∃ (f : Addr) (fd : FuncData) (ps : List Str) (ds : List Value), FnOk P w K mg base (L2.CX P w) k f fd ps sp ∧ mg x = some (.ref f) ∧ PySem.W.keepIn K (.ref f) = true ∧ Vals dvs ds ∧ Binds K fd ps ds
section
variable {X : Cx} {E : XK} {x : Str} {k j : Nat} {sp : Sp} {e : Expr} {es : List Expr} {t : TA} {p pos : Pos} {dvs : List V}
end
section
variable {P : Program} {w : World} {K : PySem.W.Frag} {mg : Str → Option Value} {base : Heap}
end
end DL
namespace DY
open PySem PySem.Spec PyProof.Rows L2 He
end DY
set_option Elab.async false
set_option linter.all false
set_option maxRecDepth 100000
set_option maxHeartbeats 4000000
namespace DL
open PySem PySem.Spec PyProof.Rows L2 DX
section
variable {c : Cn} {ς : Sta} {Φ : D → Sta → Prop} {Ψ : Psi}
end
end DL
set_option Elab.async false
set_option linter.all false
set_option maxRecDepth 100000
set_option maxHeartbeats 4000000
namespace HT
open PySem PySem.Spec PySem.Calls PyProof.Rows
section
variable {prog : Program} {w : World} {A : Around} {E : Value → Shared → Prop} {s : Shared}
end
end HT
namespace L2
open PySem PySem.Spec PyProof.Rows
section
variable {X : Cx}
end
end L2
namespace DL
open PySem PySem.Spec PyProof.Rows L2 DX
section
variable {c : Cn} {ς : Sta} {Φ : D → Sta → Prop}
end
end DL
namespace DK
open PySem PySem.Spec PyProof.Rows L2
section
variable {X : Cx} {K : PySem.W.Frag}
end
end DK
set_option Elab.async false
set_option linter.all false
set_option maxRecDepth 100000
set_option maxHeartbeats 4000000
namespace SrtO
open PySem PyProof.Rows Srt
section
variable {prog : Program} {w : World} {A : Around} {E : Value → Shared → Prop} {s : Shared}
end
end SrtO
namespace L2
open PySem PySem.Spec PyProof.Rows
variable {X : Cx}
end L2
namespace DL
open PySem PySem.Spec PyProof.Rows L2 DX
variable {K : PySem.W.Frag} {Φ : D → Prop}
end DL
namespace DK
open PySem PySem.Spec PyProof.Rows L2 DL DX
variable {X : Cx} {K : PySem.W.Frag}
end DK
set_option Elab.async false
set_option linter.all false
set_option maxRecDepth 100000
set_option maxHeartbeats 4000000
namespace NkEq
open PySem PySem.Spec PySem.Calls PyProof.Rows PySem.W
section
variable {prog : Program} {w : World} {K : Type} [DecidableEq K] {knd : HeapKind prog w K} {A : Around} {E : Value → Shared → Prop} {s : Shared}
end
end NkEq
namespace L2
open PySem PySem.Spec PySem.Calls PyProof.Rows DF
open PySem.W (AllAlike Sortable EachIs dataLe)
def AlikeN (P : Program) (w : World) (K : PySem.W.Frag) (H : Hp) (a b : Addr) : Prop := ∃ ps qs : Nk, NkAt P w K H a ps ∧ NkAt P w K H b qs ∧ ps.length = qs.length ∧
 ∀ p ∈ ps, ∃ v d e, valNk qs p.1 = some v ∧ Dp K H p.2.2 d ∧ Dp K H v e ∧ SeqAt.shaped d = true ∧ SeqAt.shaped e = true ∧ PyData.eqv d e = true
section
variable {X : Cx} {pins : List (Addr × Obj)} {σ : L2.St} {H : Hp} {s : Shared}
end
end L2
namespace DL
open PySem PySem.Spec PyProof.Rows L2 DX DF
section
variable {P : Program} {w : World} {c : Cn} {ς : Sta} {Φ : D → Sta → Prop}
theorem nkd_alike {K : PySem.W.Frag} {k : Hp} {kd : List (D × D)} (hs : ∀ e ∈ kd, SeqAt.shaped e.2.toPy = true ∧ PyData.eqv e.2.toPy e.2.toPy = true) : ∀ {ps qs : Nk}, NkD K k ps kd → NkD K k qs kd → (qs.map (·.1)).Nodup →
  ∀ p ∈ ps, ∃ v d e, valNk qs p.1 = some v ∧ Dp K k p.2.2 d ∧ Dp K k v e ∧ SeqAt.shaped d = true ∧ SeqAt.shaped e = true ∧ PyData.eqv d e = true := by
 induction kd with
 | nil =>
  intro ps qs h1 h2 nd p hp
  cases h1
  cases hp
 | cons x kd ih =>
  intro ps qs h1 h2 nd p hp
  cases h1 with
  | @cons a _ as _ r1 t1 =>
   cases h2 with
   | @cons b _ bs _ r2 t2 =>
    rw [List.map_cons, List.nodup_cons] at nd
    rcases List.mem_cons.mp hp with rfl | hp
    ·obtain ⟨s1, s2⟩ := hs x List.mem_cons_self
     have e : b.1 = p.1 := r2.1.trans r1.1.symm
     refine ⟨b.2.2, x.2.toPy, x.2.toPy, ?_, r1.2.2.2.dp (SeqAt.canLay_of_shaped s1), r2.2.2.2.dp (SeqAt.canLay_of_shaped s1), s1, s1, s2⟩
     simp [valNk, List.find?_cons, e]
    ·obtain ⟨v, d, e, hv, q⟩ := ih (fun e he => hs e (List.mem_cons_of_mem _ he)) t1 t2 nd.2 p hp
     refine ⟨v, d, e, ?_, q⟩
     have ne : ¬ b.1 = p.1 := fun z => nd.1 (by
      obtain ⟨y, hy, ey⟩ := Option.map_eq_some_iff.mp hv
      have hm := List.mem_of_find?_eq_some hy
      have ek : y.1 = p.1 := by
       have := List.find?_some (p := fun y : NestedKey × Addr × V => decide (y.1 = p.1)) hy
       exact of_decide_eq_true this
      rw [z, ← ek]
      exact List.mem_map.mpr ⟨y, hm, rfl⟩)
     have e2 : valNk (b :: bs) p.1 = valNk bs p.1 := by simp [valNk, List.find?_cons, ne]
     rw [e2]
     exact hv
theorem SR.alike {σ : L2.St} {k h : Hp} {i j : Nat} {o q : Addr} {kd : List (D × D)} (S : SR c ς σ k h) (e1 : ς.m[i]? = some (o, nkM P w c.K kd)) (e2 : ς.m[j]? = some (q, nkM P w c.K kd)) (hs : ∀ e ∈ kd, SeqAt.shaped e.2.toPy = true ∧ PyData.eqv e.2.toPy e.2.toPy = true) : AlikeN P w c.K h o q := by
 obtain ⟨ps, N1, _, _, _, r1⟩ := S.nk e1
 obtain ⟨qs, N2, _, nd, _, r2⟩ := S.nk e2
 refine ⟨ps, qs, N1, N2, by rw [Paired.length r1, Paired.length r2], fun p hp => ?_⟩
 obtain ⟨v, d, e, h1, h2, h3, h4⟩ := nkd_alike hs r1 r2 nd p hp
 exact ⟨v, d, e, h1, Dp.up S.kh h2, Dp.up S.kh h3, h4⟩
end
end DL
namespace DK
open PySem PySem.Spec PyProof.Rows L2 DL DX DF
variable {X : Cx} {P : Program} {w : World} {K : PySem.W.Frag}
end DK
set_option Elab.async false
set_option linter.all false
set_option maxRecDepth 100000
set_option maxHeartbeats 4000000
namespace L2
open PySem PySem.Spec PySem.Calls PyProof.Rows DF
open PySem.W (AllAlike Sortable EachIs dataLe)
section
variable {X : Cx}
end
end L2
namespace DL
open PySem PySem.Spec PyProof.Rows L2 DX DF
section
variable {P : Program} {w : World} {c : Cn} {ς : Sta} {Φ : D → Sta → Prop}
end
end DL
namespace DK
open PySem PySem.Spec PyProof.Rows L2 DL DX DF
variable {X : Cx} {P : Program} {w : World} {K : PySem.W.Frag}
end DK
set_option Elab.async false
set_option linter.all false
set_option maxRecDepth 100000
set_option maxHeartbeats 4000000
namespace DL
open PySem PySem.Spec PyProof.Rows L2
variable {K : PySem.W.Frag} {Φ : D → Prop}
end DL
set_option Elab.async false
set_option linter.all false
set_option maxRecDepth 100000
set_option maxHeartbeats 4000000
namespace DF
open PySem PySem.Spec PySem.Calls PyProof.Rows L2
section
variable {X : Cx}
end
section
variable {X : Cx} {pins : List (Addr × Obj)} {σ : L2.St} {H : Hp} {s : Shared} {d : Addr} {o : Obj}
end
end DF
namespace DL
open PySem PySem.Spec PyProof.Rows L2 DX DF
def ndR (P : Program) (w : World) (K : PySem.W.Frag) (kd : List (D × D)) (k : Hp) (a : Addr) : Prop := ∃ (od : Obj) (ps : Nk), k a = some (.frz od (NkO P w a ps)) ∧ (a == sysModules) = false ∧ (ps.map (·.1)).Nodup ∧ ps.length ≤ sizeLine ∧ NkD K k ps kd
def ndD (P : Program) (w : World) (K : PySem.W.Frag) (kd : List (D × D)) : D := .gh (ndR P w K kd)
theorem ndR.mono {P : Program} {w : World} {K : PySem.W.Frag} {kd : List (D × D)} {a : Addr} (k1 k2 : Hp) (e : Same k1 k2) (h : ndR P w K kd k1 a) : ndR P w K kd k2 a := by
 obtain ⟨od, ps, h1, h2, h3, h4, h5⟩ := h
 exact ⟨od, ps, e _ _ h1, h2, h3, h4, h5.mono e⟩
theorem nd_of {P : Program} {w : World} {K : PySem.W.Frag} {kd : List (D × D)} {k : Hp} {v : V} (h : Rep K k v (ndD P w K kd)) : ∃ a, v = .ref a ∧ ndR P w K kd k a := by
 cases h with
 | gh m h => exact ⟨_, rfl, h⟩
section
variable {P : Program} {w : World} {c : Cn} {ς : Sta} {Φ : D → Sta → Prop} {Ψ : Psi}
theorem ndR.at_ {kd : List (D × D)} {k h : Hp} {a : Addr} (n : ndR P w c.K kd k a) (e : Same k h) : ∃ ps, NkAt P w c.K h a ps ∧ (ps.map (·.1)).Nodup ∧ NkD c.K k ps kd := by
 obtain ⟨od, ps, h1, h2, h3, h4, h5⟩ := n
 exact ⟨ps, h5.at_ e (.inr ⟨od, e _ _ h1⟩), h3, h5⟩
end
section
variable {P : Program} {w : World} {K : PySem.W.Frag} {kd : List (D × D)} {Φ' : D → Prop}
theorem nd_at {k h : Hp} {a : Addr} (n : ndR P w K kd k a) (e : Same k h) : ∃ ps, NkAt P w K h a ps ∧ (ps.map (·.1)).Nodup ∧ NkD K k ps kd := by
 obtain ⟨od, ps, h1, h2, h3, h4, h5⟩ := n
 exact ⟨ps, h5.at_ e (.inr ⟨od, e _ _ h1⟩), h3, h5⟩
end
section
variable {P : Program} {w : World} {c : Cn} {ς : Sta} {Φ : D → Sta → Prop} {Ψ : Psi}
def NdAt (P : Program) (w : World) (K : PySem.W.Frag) (ς : Sta) (d : D) (kd : List (D × D)) : Prop := d = ndD P w K kd ∨ ∃ (o : Addr) (j : Nat), d = .ref o ∧ ς.m[j]? = some (o, nkM P w K kd)
theorem NdAt.at_ {σ : L2.St} {k h : Hp} {d : D} {kd : List (D × D)} {v : V} (n : NdAt P w c.K ς d kd) (S : SR c ς σ k h) (r : Rep c.K k v d) : ∃ a ps, v = .ref a ∧ NkAt P w c.K h a ps ∧ (ps.map (·.1)).Nodup ∧ NkD c.K k ps kd := by
 rcases n with rfl | ⟨o, j, rfl, em⟩
 ·obtain ⟨a, rfl, n⟩ := nd_of r
  obtain ⟨ps, N, nd, rd⟩ := nd_at n S.kh
  exact ⟨a, ps, rfl, N, nd, rd⟩
 ·cases r
  obtain ⟨ps, N, _, nd, _, rd⟩ := S.nk em
  exact ⟨o, ps, rfl, N, nd, rd⟩
end
end DL
namespace DK
open PySem PySem.Spec PyProof.Rows L2 DL DX DF
variable {X : Cx} {P : Program} {w : World} {K : PySem.W.Frag}
end DK
set_option Elab.async false
set_option linter.all false
set_option maxRecDepth 100000
set_option maxHeartbeats 4000000
namespace DF
open PySem PySem.Spec PySem.Calls PyProof.Rows L2
section
variable {X : Cx}
end
section
variable {X : Cx} {pins : List (Addr × Obj)} {σ : L2.St} {H : Hp} {s : Shared}
end
end DF
namespace DL
open PySem PySem.Spec PyProof.Rows L2 DX DF
section
variable {K : PySem.W.Frag} {k : Hp}
end
section
variable {P : Program} {w : World} {c : Cn} {ς : Sta} {Φ : D → Sta → Prop}
end
end DL
namespace DK
open PySem PySem.Spec PyProof.Rows L2 DL DX DF
variable {X : Cx} {P : Program} {w : World} {K : PySem.W.Frag}
end DK
set_option Elab.async false
set_option linter.all false
set_option maxRecDepth 100000
set_option maxHeartbeats 4000000
namespace DF
open PySem PySem.Spec PySem.Calls PyProof.Rows L2
section
variable {X : Cx} {pins : List (Addr × Obj)} {σ : L2.St} {H : Hp} {s : Shared}
end
end DF
namespace DL
open PySem PySem.Spec PyProof.Rows L2 DX DF
end DL
namespace DK
open PySem PySem.Spec PyProof.Rows L2 DL DX DF
variable {X : Cx} {P : Program} {w : World} {K : PySem.W.Frag}
end DK
set_option Elab.async false
set_option linter.all false
set_option maxRecDepth 100000
set_option maxHeartbeats 4000000
namespace DF
open PySem PySem.Spec PySem.Calls PyProof.Rows L2
section
variable {X : Cx}
end
end DF
namespace DL
open PySem PySem.Spec PyProof.Rows L2 DX DF
end DL
namespace DK
open PySem PySem.Spec PyProof.Rows L2 DL DX DF
variable {X : Cx} {P : Program} {w : World} {K : PySem.W.Frag}
end DK
set_option Elab.async false
set_option linter.all false
set_option maxRecDepth 100000
set_option maxHeartbeats 4000000
namespace DF
open PySem PySem.Spec PySem.Calls PyProof.Rows L2
end DF
namespace DL
open PySem PySem.Spec PyProof.Rows L2 DX DF
end DL
namespace DK
open PySem PySem.Spec PyProof.Rows L2 DL DX DF
variable {X : Cx} {P : Program} {w : World} {K : PySem.W.Frag}
end DK
set_option Elab.async false
set_option linter.all false
set_option maxRecDepth 100000
set_option maxHeartbeats 4000000
namespace DF
open PySem PySem.Spec PySem.Calls PyProof.Rows L2
end DF
namespace DL
open PySem PySem.Spec PyProof.Rows L2 DX DF
section
variable {P : Program} {w : World} {c : Cn} {ς : Sta} {Φ : D → Sta → Prop}
end
section
variable {P : Program} {w : World} {K : PySem.W.Frag} {Φ' : D → Prop} {kd : List (D × D)}
end
end DL
namespace DK
open PySem PySem.Spec PyProof.Rows L2 DL DF
end DK
set_option Elab.async false
set_option linter.all false
set_option maxRecDepth 100000
set_option maxHeartbeats 4000000
namespace PySem
namespace DZ
open HandSPX Builtin Builtin.ObjectAttr
section
variable {M : Model} {A : Around} {E : Value → Shared → Prop} {h : Heap} {g : Array GenState} {d : Drawn} {t : Nat} {os : OsState}
variable {nm q : Str} {C N : Addr} {bs bm bmB : List Value} {hdct : Bool} {sn : List Str} {sub : List Value} {ab : Bool} {col : Option Bool} {dd : Option Addr} {k0 k1 k2 k3 k5 : Option Value} {B newId initId : String}
theorem check_newK (F : ExcBaseFacts B newId initId bmB) (hT : ∀ X : String, bm.contains (.type X) = bmB.contains (.type X)) {rest : List Value} {kw : List (Str × Value)} {Q : Unit → Shared → Prop}
  (hC : h.get? C = some (excClassObj nm q C N bs bm hdct sn sub ab col dd k0 k1 k2 k3 k5 newId)) (hq : Q () ⟨h, g, d, t, os⟩) : wpAny M A (checkBuiltinCall newId ⟨.ref C :: rest, kw⟩) Q E ⟨h, g, d, t, os⟩ := by
 have hcont : (Value.ref C :: bm).contains (.type B) = true := by rw [List.contains_cons, hT, F.hasB, Bool.or_true]
 have hstar := F.noStar
 simp only [checkBuiltinCall, F.newKind, F.newSplit, F.newRow]
 repeat (first | refine wpAny_loadPart_at hC ?_ | (refine wpAny_isSubtype_exc hC ?_; rw [hcont]) | refine wpAny_staticBase_exc hC ?_ | refine wpAny_madeBy_exc hC ?_ | simp only [bne_self_eq_false, Bool.false_eq_true, if_false] | wp_step)
 exact hq
end
section
variable {prog : Program} {w : World} {A : Around} {E : Value → Shared → Prop} {R : Result → Shared → Prop} {h : Heap} {g : Array GenState} {d : Drawn} {t : Nat} {os : OsState}
variable {nm q : Str} {C N : Addr} {bs bm bmB : List Value} {hdct : Bool} {sn : List Str} {sub : List Value} {ab : Bool} {col : Option Bool} {dd : Option Addr} {k0 k1 k2 k3 k5 : Option Value} {B newId initId : String}
theorem newK (F : ExcBaseFacts B newId initId bmB) (hT : ∀ X : String, bm.contains (.type X) = bmB.contains (.type X)) {rest : List Value} {kw : List (Str × Value)}
  (hC : h.get? C = some (excClassObj nm q C N bs bm hdct sn sub ab col dd k0 k1 k2 k3 k5 newId))
  (hq : R (.ok (.ret (.ref (h.objs.size + 1)))) ⟨(h.push (W.kdv_tup rest)).push (excO C h.objs.size), g, d, t, os⟩) (hrest : rest.length ≤ sizeLine) :
  codeAny (model prog w) A (.builtin newId ⟨.ref C :: rest, kw⟩) R ⟨h, g, d, t, os⟩ := by
 have hends := F.ends
 have hcB : (Value.ref C :: bm).contains (.type B) = true := by rw [List.contains_cons, hT, F.hasB, Bool.or_true]
 have hcA : (Value.ref C :: bm).contains (.type "AttributeError") = false := by rw [List.contains_cons, hT, F.noAttr]; rfl
 have hcN : (Value.ref C :: bm).contains (.type "NameError") = false := by rw [List.contains_cons, hT, F.noName]; rfl
 refine codeAny_builtinAt F.entry ?_
 unfold Builtin.«BaseException.__new__»
 refine wpAt_bind ?_
 show wpAt _ _ _ (stack >>= _) _ _ _
 refine wpAt_bind (wpAt_stack fun p below => wpAt_of_wpAny ?_)
 wp_walk
 refine wpAt_of_wpAny ?_
 rw [F.owner]
 repeat (first | with_reducible refine wpAny_madeHere_exc F.canon hC ?_ | with_reducible refine wpAny_loadPart_at hC ?_ | (with_reducible refine wpAny_isSubtype_exc hC ?_; first | rw [hcB] | rw [hcA] | rw [hcN]) | wp_step)
 show R _ _
 rw [Heap.size_push]
 exact hq
theorem type_callK (F : ExcBaseFacts B newId initId bmB) (hT : ∀ X : String, bm.contains (.type X) = bmB.contains (.type X)) {rest : List Value} {kw : List (Str × Value)} {fI : Addr} {Q : Fin → Shared → Prop}
  (hC : h.get? C = some (excClassObj nm q C N bs bm hdct sn sub ab col dd k0 k1 k2 k3 k5 newId))
  (hi : W.Looks (model prog w) h (typeLookup (.ref C) "__init__") (some (.ref fI))) (hb : ∀ self, W.Looks (model prog w) h (bindSpecial (.ref fI) self) (.ref fI, [self])) (hrest : rest.length ≤ sizeLine)
  (hq : codeAny (model prog w) A (.call (.ref fI) ⟨.ref (h.objs.size + 1) :: rest, kw⟩)
   (fun r s' => match r with | .ok (.ret v) => v = .none ∧ Q (.done (.ret (.ref (h.objs.size + 1)))) s' | .ok _ => False | .error e => E e s')
   ⟨(h.push (W.kdv_tup rest)).push (excO C h.objs.size), g, d, t, os⟩) :
  wpAny (model prog w) A (Builtin.«type.__call__» ⟨.ref C :: rest, kw⟩) Q E ⟨h, g, d, t, os⟩ := by
 repeat (first | with_reducible refine wpAny_loadPart_at hC ?_ | with_reducible refine wpAny_madeBy_exc hC ?_ | wp_step)
 refine codeAny_call_builtin_code (Code.quiet_builtin _ F.quiet) (check_newK F hT hC ?_)
 refine newK F hT hC ?_ hrest
 show wpAny _ _ _ _ _ _
 have k : ∀ b o, h.get? b = some o → ((h.push (W.kdv_tup rest)).push (excO C h.objs.size)).get? b = some o := fun b o e => Heap.get?_push_of_some _ (Heap.get?_push_of_some _ e)
 have hC₁ := k _ _ hC
 have hget : ((h.push (W.kdv_tup rest)).push (excO C h.objs.size)).get? (h.objs.size + 1) = some (excO C h.objs.size) := by heap_get
 have hcC : (Value.ref C :: bm).contains (.ref C) = true := by simp
 have i1 := hi.keeps k
 have b1 := (hb (.ref (h.objs.size + 1))).keeps k
 unfold isInstance
 repeat (first | with_reducible refine wpAny_loadPart_at hget ?_ | (with_reducible refine wpAny_isSubtype_exc hC₁ ?_; rw [hcC]) | wp_step)
 show wpAny _ _ (typeLookup (.ref C) _) _ _ _
 refine i1.at ?_
 refine wpAny_holding (wpAny_bind (b1.at ?_))
 refine wpAny_bind (wpAny_call (codeAny_mono hq fun r s' z => ?_))
 rcases r with e | (v | _ | _ | _) <;> first | exact z | exact z.elim | skip
 obtain ⟨rfl, z⟩ := z
 first
  | exact wpAny_pure (wpAny_pure z)
  | (wp_walk; exact z)
theorem callK (F : ExcBaseFacts B newId initId bmB) (hT : ∀ X : String, bm.contains (.type X) = bmB.contains (.type X)) {rest : List Value} {kw : List (Str × Value)} {fI : Addr}
  (typ : W.Looks (model prog w) h (isInstance (.ref C) (.type "type")) true)
  (hC : h.get? C = some (excClassObj nm q C N bs bm hdct sn sub ab col dd k0 k1 k2 k3 k5 newId))
  (hi : W.Looks (model prog w) h (typeLookup (.ref C) "__init__") (some (.ref fI))) (hb : ∀ self, W.Looks (model prog w) h (bindSpecial (.ref fI) self) (.ref fI, [self])) (hrest : rest.length ≤ sizeLine)
  (hq : codeAny (model prog w) (A.under (.builtin "type.__call__" ⟨.ref C :: rest, kw⟩)) (.call (.ref fI) ⟨.ref (h.objs.size + 1) :: rest, kw⟩) (W.InitBack (h.objs.size + 1) R)
   ⟨(h.push (W.kdv_tup rest)).push (excO C h.objs.size), g, d, t, os⟩) :
  codeAny (model prog w) A (.call (.ref C) ⟨rest, kw⟩) R ⟨h, g, d, t, os⟩ := by
 have f1 := tc_lookup
 have f2 := tc_bind (.ref C)
 have hTy : (⟨h, g, d, t, os⟩ : Shared).TypeIs (.ref C) "type" := ⟨_, hC, rfl⟩
 refine codeAny_of_tree ?_
 show wpAny _ _ (callAny (.ref C) _) _ _ _
 repeat (any_goals (first | assumption | with_reducible refine wpAny_loadPart_at hC ?_ | wp_step))
 refine ⟨rfl, ?_⟩
 refine codeAny_call_builtin_at (Code.quiet_builtin _ (by decide +kernel)) entry_typeCall (W.check_slot tc_kind tc_split typ (W.tc_args _ _ _) (type_callK F hT hC hi hb hrest ?_))
 refine codeAny_mono hq fun r s' z => ?_
 rcases r with e | (v | _ | _ | _) <;> exact z
end
end DZ
end PySem
set_option Elab.async false
set_option linter.all false
set_option maxRecDepth 100000
set_option maxHeartbeats 4000000
namespace DX
open PySem PySem.W PySem.Calls PyProof.Rows PySem.HandSPX
section
variable {prog : Program} {w : World} {A : Around} {E : Value → Shared → Prop} {R : Result → Shared → Prop} {K : Frag} {mg mb : Str → Option Value} {x₀ : Str} {C fI x t0 : Addr} {fs : List Str}
theorem sup_initA {ps : List Value} {kw : List (Str × Value)} {h : Heap} {g : Array GenState} {d : Drawn} {tk : Nat} {os : OsState} {vs : List Value} (T : Txt prog K mg x₀ C fI fs) (X : K.In h) (hlim : h.NoLimit) (hng : h.Ns mainGlobals mg) (hnb : h.Ns builtinsNs mb) (hbb : ∀ y : Str, y ≠ "__name__" → mb y = bootBuiltins y)
  (hx : h.get? x = some (excO C t0)) (hnx : ∀ o, K.lookup x ≠ some o) (hroom : A.depth < recursionLimit) (hv : vs.length = fs.length) (hfew : fs.length ≤ 800)
  (hbA : ∀ (oc : Value) (od : Option Addr) (fd : FuncData) (osl : Array (Option Value)), K.lookup fI = some ⟨oc, od, .func fd, osl⟩ → ∀ s : Shared, BindsTo s fd ⟨.ref x :: ps, kw⟩ ((("self" : Str) :: fs).zip (.ref x :: vs)))
  (hq : ∀ h' tk' od', At h h' x C h.objs.size ((fs.zip vs).reverse) od' → R (.ok (.ret .none)) ⟨h', g, d, tk', os⟩) :
  codeAny (model prog w) A (.call (.ref fI) ⟨.ref x :: ps, kw⟩) R ⟨h, g, d, tk, os⟩ := by
 obtain ⟨oc, ccl, cl, doc, pm, ct, od, an, cdd, cld, osl, ccs, csl, cda, cc, qual, params, body, scope, vv, file, tf, hf, hcd, S, hb, hcode, hvs, hfile, hcell⟩ := T.fn
 obtain ⟨nm, q, N, bs, bm, sn, sub, ab, col, dd, k0, k1, k2, k3, k5, hC, hbm⟩ := T.cls
 have hcl : clsIn K C = some { name := nm, bases := bs, mro := .ref C :: bm, ns := N, qualname := q, hasDict := true, slotNames := sn, subclasses := sub, abstract := ab, collection := col, hasDel := false } := by unfold clsIn; rw [hC] <;> rfl
 obtain ⟨ar, har, ear⟩ := S.arg
 have hlen : ((("self" : Str) :: fs).zip (Value.ref x :: vs)).length = fs.length + 1 := by simp [hv]
 have inx : ∀ f ∈ fs, ∃ v, (f, v) ∈ (("self" : Str) :: fs).zip (Value.ref x :: vs) := fun f hf => by
  obtain ⟨i, hi, e⟩ := List.mem_iff_getElem.mp hf
  refine ⟨vs[i], List.mem_iff_getElem.mpr ⟨i + 1, by simp [hv]; omega, ?_⟩⟩
  simp [e]
 refine ks_codeAny_call_defAt (fd := ksFn "__init__" qual params body scope .none .none doc pm an (.ref cda) ct cc) (body := body) (binds := (("self" : Str) :: fs).zip (.ref x :: vs)) hroom (X _ _ hf) rfl hlim (codeRec_of X hcd) rfl
  (hbA _ _ _ _ hf _) S.cell (fun y hy => ?_) (fun h₁ hns hk₁ => ?_) S.co S.gen S.kind
 ·have z := (List.of_mem_zip hy).1
  rcases List.mem_cons.mp z with e | e
  ·rw [e]; exact S.ka
  ·exact (S.kf _ e).1
 have X₁ : K.In h₁ := fun b o e => hk₁ b o (X b o e)
 have hx₁ := hk₁ _ _ hx
 have hxL : h.objs.size ≠ x := Nat.ne_of_gt (Heap.lt_size hx)
 have hself : ((("self" : Str) :: fs).zip (Value.ref x :: vs)).reverse.lookup ("self" : Str) = some (Value.ref x) := lookup_rev_zip S.nd (by simp)
 obtain ⟨p0, p1, p2, p3, p4, p5, mm, jj, rest, rfl, hasg, hline⟩ := S.body
 show _root_.PySem.wpAt (model prog w) _ (.func _ (ksEnv qual scope h.objs.size fI (.ref cda) cc)) (execs _ (ksEnv qual scope h.objs.size fI (.ref cda) cc)) _ _ _
 have he : ∀ env : Env, eval (.Call (.Attribute (.Call (.Name "super" p0) [] [] p1) "__init__" p2) [.Constant (.str mm) jj p5] [] p3) env = (do
   let ov ← attributeBase (.Call (.Name "super" p0) [] [] p1) "__init__" env (eval (.Call (.Name "super" p0) [] [] p1) env)
   standAt p2.atName
   let (f, first) ← holding [ov] (getMethod ov "__init__" (do return (← importBound (.Call (.Name "super" p0) [] [] p1) env).getD true))
   callWith p3 f first (backTo p3 (starEach [Expr.Constant (.str mm) jj p5] env)) []) := fun env => by
  have hpos : ∀ o : Expr, methodCallPos true o env p2 p3 = pure p3 := fun o => by unfold methodCallPos; simp [hline]
  show (do
   let ov ← attributeBase (.Call (.Name "super" p0) [] [] p1) "__init__" env (eval (.Call (.Name "super" p0) [] [] p1) env)
   standAt p2.atName
   methodCall (.Call (.Name "super" p0) [] [] p1) "__init__" p2 p3 env ov 1 (backTo p3 (starEach [Expr.Constant (.str mm) jj p5] env)) []) = _
  refine bind_congr fun ov => bind_congr fun _ => ?_
  unfold methodCall
  refine bind_congr fun z => ?_
  obtain ⟨f, first⟩ := z
  show (do
   let callPos ← methodCallPos true _ env p2 p3
   callWith callPos f first _ _) = _
  rw [hpos]
  rfl
 refine ks_wpAt_execs_cons (ks_wpAt_Expr_any (ks_wpAt_MethodCall ?_ (he _)) (by unfold interactive; simp only [ksEnv]; rw [S.kind]; rfl) (by first | rfl | (unfold swapsWith; rfl)))
 have Cx : ∃ o, h₁.get? C = some o ∧ o.data = .cls { name := nm, bases := bs, mro := .ref C :: bm, ns := N, qualname := q, hasDict := true, slotNames := sn, subclasses := sub, abstract := ab, collection := col, hasDel := false } := ⟨_, X₁ _ _ hC, rfl⟩
 obtain ⟨oD, hD1, hD2⟩ := Cx
 have nsg : h₁.Ns mainGlobals mg := by
  obtain ⟨o, es, ep, e1, e2⟩ := hng
  exact ⟨o, es, ep, hk₁ _ _ e1, e2⟩
 have nsb : h₁.Ns builtinsNs mb := by
  obtain ⟨o, es, ep, e1, e2⟩ := hnb
  exact ⟨o, es, ep, hk₁ _ _ e1, e2⟩
 refine ks_wpAt_super_base (env := ksEnv qual scope h.objs.size fI (.ref cda) cc) S.ks S.kc (by decide) rfl (X₁ _ _ hf) rfl har rfl (X₁ _ _ hcode) rfl hvs hfile T.top ?_
 refine ks_loadName_global S.kind S.ks (loadGlobal_builtin (env := ksEnv qual scope h.objs.size fI (.ref cda) cc) nsg (mg_none_of X hng T.hsuper) nsb ((hbb _ (by decide +kernel)).trans (by first | boot_by_name | rfl | kernel_rfl)) ⟨rfl, ?_⟩)
 refine wpAny_loadName_free S.kind S.kc rfl ⟨_, X₁ _ _ hcell, rfl⟩ ?_
 rw [ear]
 refine wpAny_loadName_local S.kind S.ka hns hself ?_
 refine ks_wpAny_isType_cls hD1 hD2 ⟨rfl, ?_⟩
 refine ks_wpAny_call_super hD1 hD2 hx₁ rfl (fun c e => by cases e) (looks_mroIn X₁ T.hsub) (fun h₂ hso hk₂ => ?_)
 have X₂ : K.In h₂ := fun b o e => hk₂ b o (X₁ b o e)
 have hx₂ := hk₂ _ _ hx₁
 have I₂ : InstAt h₂ x (excO C t0) C none := ⟨hx₂, rfl, rfl, trivial⟩
 have hI : Looks (model prog w) h₂ (isInstance (.ref x) (.type "ValueError")) true := I₂.type.andThen (looks_subIn X₂ T.veC)
 have hsup : alongIn K "__init__" (((Value.ref C :: bm).dropWhile (· != .ref C)).drop 1) = some (some (.builtin "ValueError.__init__")) := by
  have z := T.sup
  unfold ks_superIn at z
  rw [hcl] at z
  exact z
 refine kxs_getMethod kxs_ValueError hso (looks_opaque X₂ T.any) (l₀ := .ref C :: bm) (fun A Q E s k q => wpAny_bind ((looks_clsIn X₂ hcl) A _ E s k (wpAny_pure q))) rfl X₂ hsup hI (ks_ne X₂ I₂ hcl) (by decide) ?_
 have hu : (h₂.push (kxs_mw "ValueError.__init__" x)).get? h₂.objs.size = some (kxs_mw "ValueError.__init__" x) := Heap.get?_push_size _ rfl
 have keep₃ : ∀ b o, h₂.get? b = some o → (h₂.push (kxs_mw "ValueError.__init__" x)).get? b = some o := fun b o e => Heap.get?_push_of_some _ e
 refine kxs_callWith (i := "ValueError.__init__") (x := x) rfl (evalArgs_plain (Calls.spliced_cons (Calls.Constant_str (k := jj) (pos := p5) (Calls.spliced_nil ⟨hu, ?_⟩))))
 have hx₃ := keep₃ _ _ hx₂
 have X₃ : K.In (h₂.push (kxs_mw "ValueError.__init__" x)) := fun b o e => keep₃ b o (X₂ b o e)
 refine wpAny_call (codeAny_of_tree ?_)
 show wpAny _ _ (callAny (.ref h₂.objs.size) ⟨_, []⟩) _ _ _
 simp only [callAny]
 refine wpAny_bind (wpAny_load hu ?_)
 simp only [kxs_mw, show (Value.type "method-wrapper" == Value.type "method" || Value.type "method-wrapper" == Value.type "builtin_function_or_method" || Value.type "method-wrapper" == Value.type "method-wrapper") = true by decide, if_true]
 refine KFB.if_so (by decide) ?_
 refine wpAny_bind (check_bound_init F.excBase_ValueError.toExcCallFacts (X₃ _ _ hC) hx₃ rfl ?_)
 refine wpAny_bind (wpAny_pure (wpAny_pure ?_))
 refine ⟨plainId_quiet F.excBase_ValueError.init.plain _, codeAny_builtin F.excBase_ValueError.initEntry ?_⟩
 refine exc_init_tree (cls := .ref C) (t0 := t0) (dv := none) (c2 := .none) (c3 := .none) (b4 := .bool false) hx₃ (by rw [sizeLine_eq]; show 1 ≤ _; omega) fun h₄ hk₄ hx₄ _ => ?_
 have all : ∀ b o, b ≠ x → h.get? b = some o → h₄.get? b = some o := fun b o hb e => hk₄ b o hb (keep₃ b o (hk₂ b o (hk₁ b o e)))
 have hns₄ : h₄.Ns h.objs.size fun y => ((("self" : Str) :: fs).zip (Value.ref x :: vs)).reverse.lookup y := by
  obtain ⟨o, es, ep, e1, e2⟩ := hns
  exact ⟨o, es, ep, hk₄ _ _ hxL (keep₃ _ _ (hk₂ _ _ e1)), e2⟩
 refine wpAt_of_wpAny (asg_run (C := C) (x := x) (L := h.objs.size) (h₀ := h) (m := fun y => ((("self" : Str) :: fs).zip (Value.ref x :: vs)).reverse.lookup y) (env := ksEnv qual scope h.objs.size fI (.ref cda) cc) hcl (show refsVE (.ref C :: bm) = true from hbm) rfl T.sa S.kind rfl (Nat.le_refl _) hxL hself S.ka hnx hasg h₄ _ [] none
  (fun f hf => ⟨T.noN f hf, (S.kf f hf).1, (S.kf f hf).2, by obtain ⟨v, hv⟩ := inx f hf; exact ⟨v, lookup_rev_zip S.nd hv⟩⟩) X hns₄ ⟨all, ⟨_, hx₄⟩, rfl⟩ (by simp; omega) fun h' tk' od' a => ?_)
 refine hq h' tk' od' ?_
 have e : (fs.map fun f => (f, (((("self" : Str) :: fs).zip (Value.ref x :: vs)).reverse.lookup f).getD .none)) = fs.zip vs := by
  refine List.ext_getElem (by simp [hv]) fun i h1 h2 => ?_
  have hi : i < fs.length := by simpa using h1
  rw [List.getElem_map, List.getElem_zip, lookup_rev_zip (v := vs[i]) S.nd]
  ·rfl
  ·exact List.mem_iff_getElem.mpr ⟨i + 1, by simp [hv]; omega, by simp⟩
 rw [e, List.append_nil] at a
 exact a
end
theorem inst_type {K : Frag} {C : Addr} (h : typeIn K (.ref C) = some (.type "type")) : instIn K (.ref C) (.type "type") = some true := by
 unfold instIn
 rw [h]
 rfl
section
variable {prog : Program} {w : World} {A : Around} {R : Result → Shared → Prop} {K : Frag} {mg mb : Str → Option Value} {x₀ : Str} {C fI : Addr} {fs : List Str}
theorem sup_madeA {ps : List Value} {kw : List (Str × Value)} {h : Heap} {g : Array GenState} {d : Drawn} {tk : Nat} {os : OsState} {vs : List Value} (T : Txt prog K mg x₀ C fI fs) (X : K.In h) (hlim : h.NoLimit) (hng : h.Ns mainGlobals mg) (hnb : h.Ns builtinsNs mb) (hbb : ∀ y : Str, y ≠ "__name__" → mb y = bootBuiltins y)
  (hroom : A.depth + 1 < recursionLimit) (hv : vs.length = fs.length) (hfew : fs.length ≤ 800)
  (hps : ps.length ≤ 1000) (hbA : ∀ (oc : Value) (od : Option Addr) (fd : FuncData) (osl : Array (Option Value)), K.lookup fI = some ⟨oc, od, .func fd, osl⟩ → ∀ (s : Shared) (x : Addr), BindsTo s fd ⟨.ref x :: ps, kw⟩ ((("self" : Str) :: fs).zip (.ref x :: vs)))
  (hq : ∀ h' tk' e od, Made h h' e C fs vs od → R (.ok (.ret (.ref e))) ⟨h', g, d, tk', os⟩) :
  codeAny (model prog w) A (.call (.ref C) ⟨ps, kw⟩) R ⟨h, g, d, tk, os⟩ := by
 obtain ⟨nm, q, N, bs, bm, sn, sub, ab, col, dd, k0, k1, k2, k3, k5, hC, hbm⟩ := T.cls
 have k : ∀ b o, h.get? b = some o → ((h.push (kdv_tup ps)).push (excO C h.objs.size)).get? b = some o := fun b o e => Heap.get?_push_of_some _ (Heap.get?_push_of_some _ e)
 have hget : ((h.push (kdv_tup ps)).push (excO C h.objs.size)).get? (h.objs.size + 1) = some (excO C h.objs.size) := by heap_get
 have hnx : ∀ o, K.lookup (h.objs.size + 1) ≠ some o := fun o e => by
  have z : h.get? (h.objs.size + 1) = some o := X _ _ e
  exact absurd (Nat.lt_of_succ_lt (Heap.lt_size z)) (Nat.lt_irrefl _)
 refine DZ.callK F.excBase_ValueError (fun X => refsVE_contains X bm hbm) (looks_instIn X (inst_type T.tyC)) (X _ _ hC) (looks_findIn X T.iC) (fun self => bind_fn X self T.tC) (by rw [sizeLine_eq]; omega) ?_
 refine sup_initA (h := (h.push (kdv_tup ps)).push (excO C h.objs.size)) T (fun b o e => k b o (X b o e)) (hlim.keeps k) (hng.keeps k) (hnb.keeps k) hbb hget hnx ?_ hv hfew (fun oc od fd osl e s => hbA oc od fd osl e s _) fun h' tk' od' a => ?_
 ·show A.depth + 1 < recursionLimit
  exact hroom
 ·have old : ∀ b o, h.get? b = some o → h'.get? b = some o := fun b o e => a.keep b o (Nat.ne_of_lt (Nat.lt_succ_of_lt (Heap.lt_size e))) (k b o e)
  have sz : ((h.push (kdv_tup ps)).push (excO C h.objs.size)).objs.size = h.objs.size + 1 + 1 := by rw [Heap.size_push, Heap.size_push]
  obtain ⟨t1, ho⟩ := a.obj
  refine ⟨rfl, hq h' tk' (h.objs.size + 1) od' ⟨old, Nat.le_succ _, ⟨_, _, ho, rfl, rfl, rfl, rfl⟩, ?_⟩⟩
  have z := a.dict
  cases od' with
  | none =>
   have z : (fs.zip vs).reverse = [] := z
   have z : fs.zip vs = [] := by simpa using z
   have zl : (fs.zip vs).length = 0 := by rw [z]; rfl
   rw [List.length_zip, hv, Nat.min_self] at zl
   exact List.length_eq_zero_iff.mp zl
  | some dx =>
   obtain ⟨z1, z2, z3, z4, z5⟩ := z
   rw [sz] at z1
   exact ⟨by omega, z3, z4, fun e => z5 (by rw [e]; rfl)⟩
end
end DX
set_option Elab.async false
set_option linter.all false
set_option maxRecDepth 100000
set_option maxHeartbeats 4000000
namespace PySem.W
open PySem PySem.Spec PySem.Calls PyProof.Rows
section
variable {prog : Program} {w : World} {A : Around} {E : Value → Shared → Prop} {s : Shared} {K : Frag} {x D : Addr} {ox : Obj} {od : Option Obj}
theorem dz_find {C : Addr} {name : Str} {a g : Value} (hc : (clsIn K C).isSome = true) (ha : findIn K (.ref C) name = some (some a)) (hg : specialIn K a "__get__" = some (some g)) (ht : takesIn K a = some true) : findObj K C od name = some (.bind g a) := by
 obtain ⟨cd, hc⟩ := Option.isSome_iff_exists.mp hc
 unfold findObj
 rw [hc, Option.bind_some, ha, Option.bind_some]
 simp [hg, ht]
theorem dz_class {Q : Option Value → Shared → Prop} (hga : findIn K (.ref D) "__getattribute__" = some (some (.builtin "BaseException.__getattribute__"))) (hgt : findIn K (.ref D) "__getattr__" = some none) (hsub : subIn K (.ref D) (.type "BaseException") = some true)
  (hdct : hasDictIn K D = true) (ha : findIn K (.ref D) "__class__" = some (some (.builtin "object.__class__")))
  (hn : specialIn K (.builtin "object.__class__") "__get__" = some (some (.builtin "getset_descriptor.__get__"))) (htk : takesIn K (.builtin "object.__class__") = some true) (hm : mroIn K D (.type "object") = some true)
  (X : K.In s.heap) (I : InstAt s.heap x ox D od) (h : Q (some (.ref D)) { s with toks := s.toks + 1 }) : wpAny (model prog w) A (getAttr? (.ref x) "__class__") Q E s := by
 have hf : findObj K D od "__class__" = some (.bind (.builtin "getset_descriptor.__get__") (.builtin "object.__class__")) := dz_find (by obtain ⟨cd, hc, _⟩ := any_some hdct; rw [hc]; rfl) ha hn htk
 obtain ⟨hp, g, d, t, os⟩ := s
 have L0 := I.type (M := model prog w)
 have L1 := looks_findIn (M := model prog w) X hga
 have L2 := looks_findIn (M := model prog w) X hgt
 have L3 := looks_find (M := model prog w) X I hf
 have sub : Looks (model prog w) hp (isInstance (.ref x) (.type "BaseException")) true := L0.andThen (looks_subIn X hsub)
 have hx0 : (false && onTheHeap (Value.builtin "BaseException.__getattribute__")) = false := rfl
 have hx2 : (Value.builtin "BaseException.__getattribute__" == Value.builtin "object.__getattribute__") = false := by decide +kernel
 have hx1 : (onTheHeap (Value.ref D) && Value.builtin "BaseException.__getattribute__" == Value.builtin "object.__getattribute__") = false := by rw [hx2]; rfl
 unfold getAttr? getAttrBy? getAttrBy
 refine wpAny_bind (wpAny_mkText (wpAny_bind (wpAny_attempt (wpAny_holding (wpAny_bind (L0.at (wpAny_bind (L1.at ?_))))))))
 show wpAny _ _ (if (onTheHeap (Value.ref D) && Value.builtin "BaseException.__getattribute__" == Value.builtin "object.__getattribute__") = true then _ else _) _ _ _
 rw [hx1, if_neg Bool.false_ne_true]
 unfold getAttrByItsOwn hookBefore
 refine wpAny_bind ?_
 rw [if_pos (show onTheHeap (Value.ref D) = true from rfl)]
 refine L2.at ?_
 refine wpAny_bind (wpAny_attempt (wpAny_holding ?_))
 unfold callGetattribute
 rw [hx0, if_neg Bool.false_ne_true]
 unfold boundAndCalled
 rw [PySem.F.excAttr_ValueError.ga.bind (.ref x)]
 refine wpAny_bind (wpAny_pure ?_)
 show wpAny _ _ (call (.builtin "BaseException.__getattribute__") [.ref x, .str "__class__" t]) _ _ _
 refine wpAny_call (codeAny_call_builtin PySem.F.excAttr_ValueError.ga.plain PySem.F.entry_bexc_ga ?_)
 refine @check_slot (model prog w) _ _ ⟨hp, g, d, t + 1, os⟩ "BaseException.__getattribute__" "BaseException" "__getattribute__" (.ref x) [.str "__class__" t] [] _ (by decide +kernel) (by decide +kernel) sub (PySem.F.args_bexc_ga (.ref x) (.str "__class__" t)) ?_
 unfold Builtin.«object.__getattribute__»
 refine wpAny_bind (wpAny_of_eq (a := ((Value.ref x : Value), [Value.str "__class__" t])) (by first | rfl | (simp only [slotArgs]; rfl)) ?_)
 refine wpAny_bind (wpAny_pure (wpAny_bind (L0.at (wpAny_bind (L3.at ?_)))))
 show wpAny _ _ (holding [Value.builtin "object.__class__"] (call (.builtin "getset_descriptor.__get__") [.builtin "object.__class__", .ref x, .ref D]) >>= ret) _ _ _
 refine wpAny_bind (wpAny_holding (wpAny_call (class_get (s := ⟨hp, g, d, t + 1, os⟩) (ox := ox) (od := od) X I hm ?_)))
 refine wpAny_pure ?_
 show wpAny _ _ (handedOut (.ref D)) _ _ _
 rw [handedOut_of (v := .ref D) rfl]
 first
  | exact wpAny_pure (wpAny_pure h)
  | exact wpAny_pure h
  | exact wpAny_pure (wpAny_bind (wpAny_pure (wpAny_pure h)))
theorem dz_kitx (hga : findIn K (.ref D) "__getattribute__" = some (some (.builtin "BaseException.__getattribute__"))) (hgt : findIn K (.ref D) "__getattr__" = some none) (hsub : subIn K (.ref D) (.type "BaseException") = some true) (hdct : hasDictIn K D = true) (ha : findIn K (.ref D) "__class__" = some (some (.builtin "object.__class__")))
  (hn : specialIn K (.builtin "object.__class__") "__get__" = some (some (.builtin "getset_descriptor.__get__"))) (htk : takesIn K (.builtin "object.__class__") = some true) (hm : mroIn K D (.type "object") = some true) :
  KitX K (.ref x) (.ref D) (fun h => InstAt h x ox D od) where
 ty := fun _ _ _ I => I.type
 it := fun _ _ X _ => by
  obtain ⟨cdD, hcD, _⟩ := any_some hdct
  unfold clsIn at hcD
  split at hcD
  ·rename_i c' d' cd' sl' ho
   intro A' Q' E' s' k q
   unfold isType loadHead
   exact wpAny_bind (wpAny_loadPart (k _ _ (X _ _ ho)) (wpAny_pure q))
  ·cases hcD
 ne := fun h tp dd its n sl X htp => by
  obtain ⟨cdD, hcD, _⟩ := any_some hdct
  refine Bool.eq_false_iff.mpr fun q => ?_
  have e : D = tp := Value.ref.inj (beq_iff_eq.mp q)
  subst e
  unfold clsIn at hcD
  split at hcD
  ·rename_i c' d' cd' sl' ho
   have z := (X _ _ ho).symm.trans htp
   cases z
  ·cases hcD
 ca := fun X I k => dz_class hga hgt hsub hdct ha hn htk hm X I k
end
end PySem.W
namespace L2
open PySem PySem.Spec PyProof.Rows _root_.DX
def ExV (C : Addr) (od : Option Addr) (a : Addr) : HO := .ext fun h => ∃ (oe : Obj) (vs : Array Value), h.get? a = some oe ∧ Zc (.ref C) od oe ∧ oe.data = .fields vs
theorem exV_ok {P : Program} {w : World} {H : Hp} {h : Heap} {a C : Addr} {od : Option Addr} {oe : Obj} {vs : Array Value} (e : h.get? a = some oe) (z : Zc (.ref C) od oe) (d : oe.data = .fields vs) : ObjOk P w H h a (ExV C od a) :=
 ⟨⟨oe, vs, e, z, d⟩, ⟨oe, e⟩, fun _ _ ⟨o, v, q, r⟩ k => ⟨o, v, k o q, r⟩⟩
def XV (C : Addr) (vs : List V) (Q : VK) (H1 : Hp) : List Str → Prop
 | [] => ∀ e, H1 e = none → Q (.ref e) (upd H1 e (ExV C none e))
 | f :: fs => ∀ d e, H1 d = none → H1 e = none → d ≠ e → Q (.ref e) (upd (upd H1 d (.xd ((f :: fs).zip vs))) e (ExV C (some d) e))
def tXV (C : Addr) (fs : List Str) (ta : TA) : TE := fun σ H Q => ta σ H fun vs H1 => vs.length = fs.length ∧ XV C vs Q H1 fs
def tXVK (C : Addr) (fs : List Str) (tk : TA) : TE := fun σ H Q => tk σ H fun vs H1 => vs.length = fs.length ∧ XV C vs.reverse Q H1 fs
def KwB (K : PySem.W.Frag) (fI : Addr) (fs ks : List Str) : Prop := ks.length = fs.length ∧ ∀ (oc : Value) (od : Option Addr) (fd : FuncData) (osl : Array (Option Value)), K.lookup fI = some ⟨oc, od, .func fd, osl⟩ → ∀ (s : Shared) (x : Addr) (ws : List Value), ws.length = ks.length → BindsTo s fd ⟨[.ref x], ks.zip ws⟩ ((("self" : Str) :: fs).zip (.ref x :: ws.reverse))
theorem vals_rev : ∀ {vs : List V} {us : List Value}, Vals vs us → Vals vs.reverse us.reverse := by
 have app : ∀ {a b : List V} {c d : List Value}, Vals a c → Vals b d → Vals (a ++ b) (c ++ d) := by
  intro a b c d h1 h2
  induction h1 with
  | nil => exact h2
  | cons r _ ih => exact .cons r ih
 intro vs us h
 induction h with
 | nil => exact .nil
 | cons r _ ih =>
  rw [List.reverse_cons, List.reverse_cons]
  exact app ih (.cons r .nil)
section
variable {X : Cx} {C fI : Addr}
theorem made_v {fs : List Str} {pins : List (Addr × Obj)} {σ : L2.St} {H1 : Hp} {Q : VK} {vs : List V} {us ps : List Value} {kw : List (Str × Value)} {x : Str} {s1 : Shared} {k : Nat} (T : Txt X.prog X.K X.mg x C fI fs) (nd : fs.Nodup) (hfew : fs.length ≤ 800) (hr : Room k X.A) (I1 : Inv X pins σ H1 s1) (r1 : Vals vs us) (hl : vs.length = fs.length)
  (hps : ps.length ≤ 1000) (hbA : ∀ (oc : Value) (od : Option Addr) (fd : FuncData) (osl : Array (Option Value)), X.K.lookup fI = some ⟨oc, od, .func fd, osl⟩ → ∀ (s : Shared) (x : Addr), BindsTo s fd ⟨.ref x :: ps, kw⟩ ((("self" : Str) :: fs).zip (.ref x :: us)))
  (q1 : XV C vs Q H1 fs) :
  wpAny (model X.prog X.w) X.A (call (.ref C) ps kw) (EP X pins σ Q) X.xe s1 := by
 have hlim := I1.nolimit
 have hgl := I1.ok.mod.glob.keeps I1.bk
 obtain ⟨mb, hb1, hb2⟩ := I1.ok.mod.blt
 have hbl := hb1.keeps I1.bk
 have KI := I1.kIn
 obtain ⟨hp, g, dr, tk, os⟩ := s1
 have hul : us.length = fs.length := by rw [← hl]; exact r1.length.symm
 refine wpAny_call (sup_madeA T KI hlim hgl hbl hb2 (by have := hr.dp; omega) hul hfew hps hbA fun h' tk' e od M => ?_)
 show EP X pins σ Q (.ref e) ⟨h', g, dr, tk', os⟩
 obtain ⟨oe, fv, hoe, hc, hd, hdat, h1⟩ := M.obj
 obtain ⟨G', g1, g2⟩ := restrict h' fun b => decide (b ≠ e)
 have gk : ∀ b, b ≠ e → G'.get? b = h'.get? b := fun b hb => g1 b (decide_eq_true hb)
 have ge : G'.get? e = none := g2 e (by simp)
 have old : ∀ b o, hp.get? b = some o → G'.get? b = some o := fun b o q => (gk b (Nat.ne_of_lt (Nat.lt_of_lt_of_le (Heap.lt_size q) M.new))).trans (M.keep b o q)
 have back : ∀ b o, G'.get? b = some o → h'.get? b = some o := fun b o q => by
  by_cases hb : b = e
  ·rw [hb, ge] at q; cases q
  ·exact (gk b hb).symm.trans q
 have fe : H1 e = none := I1.hok.fresh M.new
 have M4 := M.dict
 cases od with
 | none =>
  have M4 : fs = [] := M4
  subst M4
  have J : Inv X pins σ H1 ⟨G', g, dr, tk', os⟩ := I1.kept (t' := tk') old
  exact ⟨.ref e, _, J.laidN (t' := tk') back ge fe (exV_ok hoe ⟨hc, hd⟩ hdat), rfl, q1 e fe⟩
 | some d =>
  obtain ⟨d1, d2, d3, d4⟩ := M4
  have fd := I1.hok.fresh d1
  have q2 : Q (.ref e) (upd (upd H1 d (.xd (fs.zip vs))) e (ExV C (some d) e)) := by
   cases fs with
   | nil => exact absurd rfl d4
   | cons f fs => exact q1 d e fd fe d2
  have ob : ObjOk X.prog X.w (upd H1 d (.xd (fs.zip vs))) G' d (.xd (fs.zip vs)) :=
   ⟨_, d3.at (fun o q => (gk d d2).trans q), fun f => relO_rev nd r1 f⟩
  have J : Inv X pins σ (upd H1 d (.xd (fs.zip vs))) ⟨G', g, dr, tk', os⟩ := I1.laid (t' := tk') old d1 ob
  have fe2 : upd H1 d (.xd (fs.zip vs)) e = none := by rw [upd_ne (Ne.symm d2)]; exact fe
  exact ⟨.ref e, _, J.laidN (t' := tk') back ge fe2 (exV_ok hoe ⟨hc, hd⟩ hdat), rfl, q2⟩
theorem binds_pos {fs : List Str} {us : List Value} {x : Str} (T : Txt X.prog X.K X.mg x C fI fs) (hl : us.length = fs.length) (oc : Value) (od : Option Addr) (fd : FuncData) (osl : Array (Option Value)) (e : X.K.lookup fI = some ⟨oc, od, .func fd, osl⟩) (s : Shared) (x : Addr) : BindsTo s fd ⟨.ref x :: us, []⟩ ((("self" : Str) :: fs).zip (.ref x :: us)) := by
 obtain ⟨_, _, _, _, _, _, _, _, _, _, _, _, _, _, _, _, _, _, _, _, _, _, hf, _, _, hb, _⟩ := T.fn
 rw [hf] at e
 cases e
 exact hb s (.ref x :: us) (by rw [List.length_cons, hl])
theorem pe_xv {fs : List Str} {a : Expr} {es : List Expr} {ta : TA} {x : Str} {p pos : Pos} {k : Nat} (T : ∃ fI, Txt X.prog X.K X.mg x C fI fs) (nd : fs.Nodup) (hfew : fs.length ≤ 800) (hr : Room k X.A) (ha : PA X (a :: es) ta) (hg : Gl X x := by rfl) (hdb : (x == ("__debug__" : Str)) = false := by decide)
  (he : starEach (a :: es) X.env = (false, eval a X.env) :: starEach es X.env := by rfl) (hpl : (backTo pos (starEach es X.env)).any (·.1) = false := by rfl) :
  PE X (.Call (.Name x p) (a :: es) [] pos) (tXV C fs ta) := by
 obtain ⟨fI, T⟩ := T
 refine ⟨fun pins s σ H Q I h => ?_⟩
 refine wpAny_Call_Name_kw (ld_glob I hg T.gC ?_ hdb)
 refine PySem.W.callWith_K (h₀ := X.base) I.ok.mod.kin T.kC (thn (ha.run pos pins s σ H _ I h) fun us s1 hh => ?_) he hpl
 obtain ⟨vs, H1, I1, r1, hl, q1⟩ := hh
 have lu : us.length = fs.length := by rw [← hl]; exact r1.length.symm
 exact ⟨I1.kIn, made_v (ps := us) (kw := []) T nd hfew hr I1 r1 hl (by omega) (binds_pos T lu) q1⟩
theorem pe_xv0 {x : Str} {p pos : Pos} {k : Nat} (T : ∃ fI, Txt X.prog X.K X.mg x C fI []) (hr : Room k X.A) (hg : Gl X x := by rfl) (hdb : (x == ("__debug__" : Str)) = false := by decide) :
  PE X (.Call (.Name x p) [] [] pos) (tXV C [] tNil) := by
 obtain ⟨fI, T⟩ := T
 refine ⟨fun pins s σ H Q I h => ?_⟩
 refine wpAny_Call_Name_kw (ld_glob I hg T.gC ?_ hdb)
 obtain ⟨hl, q1⟩ := h
 refine PySem.W.callWith_K0 I.kIn T.kC ?_
 exact made_v (fs := []) (vs := []) (us := []) (ps := []) (kw := []) T List.nodup_nil (by decide) hr I .nil rfl (by decide) (binds_pos (us := []) T rfl) q1
theorem pe_xvK {fs ks : List Str} {kws : List Keyword} {tk : TA} {x : Str} {p pos : Pos} {k : Nat} (T : ∃ fI, Txt X.prog X.K X.mg x C fI fs ∧ KwB X.K fI fs ks) (nd : fs.Nodup) (hfew : fs.length ≤ 800) (hr : Room k X.A) (hkw : PK X kws tk) (hg : Gl X x := by rfl) (hdb : (x == ("__debug__" : Str)) = false := by decide)
  (hall : (backToKw pos (keywordEach kws X.env)).all (·.1.isSome) = true := by rfl) (hks : (backToKw pos (keywordEach kws X.env)).filterMap (·.1) = ks := by rfl)
  (hpl : ((backTo pos (starEach [] X.env)).any (·.1) || (backToKw pos (keywordEach kws X.env)).any (·.1.isNone)) = false := by rfl) :
  PE X (.Call (.Name x p) [] kws pos) (tXVK C fs tk) := by
 obtain ⟨fI, T, lk, B⟩ := T
 refine ⟨fun pins s σ H Q I h => ?_⟩
 refine wpAny_Call_Name_kw (ld_glob I hg T.gC ?_ hdb)
 refine PySem.W.callWith_KW0 (h₀ := X.base) I.ok.mod.kin T.kC hall ?_ hpl
 refine thn (hkw.run pos pins s σ H _ I h) fun ws s2 ⟨zs, H2, I2, rz, hl, q2⟩ => ⟨I2.kIn, ?_⟩
 rw [hks]
 have lw : ws.length = ks.length := by rw [lk, ← hl]; exact rz.length.symm
 exact made_v (ps := []) (us := ws.reverse) (vs := zs.reverse) T nd hfew hr I2 (vals_rev rz) (by rw [List.length_reverse]; exact hl) (Nat.zero_le _) (fun oc od fd osl e s x => B oc od fd osl e s x ws lw) q2
structure ExAt (K : PySem.W.Frag) (H : Hp) (a C : Addr) (ns : List Str) (vs : List V) : Prop where
 ex : ∃ od, H a = some (ExV C od a) ∧ (match od with | none => ns = [] | some dd => H dd = some (.xd (ns.zip vs)))
theorem ExAt.inst {pins : List (Addr × Obj)} {σ : L2.St} {H : Hp} {s : Shared} {a : Addr} {ns : List Str} {vs : List V} (I : Inv X pins σ H s) (h : ExAt X.K H a C ns vs) : ∃ oe od, PySem.W.InstAt s.heap a oe C od ∧
  (∀ (n : Str) (v : V), (ns.zip vs).lookup n = some v → ∃ o u, od = some o ∧ PySem.W.lookIn n o = some (some u) ∧ RelV v u) := by
 obtain ⟨od, ha, hd⟩ := h.ex
 obtain ⟨⟨oe, fv, h1, h2, h3⟩, _, _⟩ := I.hok a _ ha
 have no : PySem.W.notCls oe = true := by unfold PySem.W.notCls; rw [h3] <;> rfl
 cases od with
 | none =>
  have hd : ns = [] := hd
  subst hd
  exact ⟨oe, none, ⟨h1, h2.1, no, by rw [h2.2]; trivial⟩, fun n v z => by cases z⟩
 | some dd =>
  have hx : ObjOk X.prog X.w H s.heap dd (.xd (ns.zip vs)) := I.hok dd _ hd
  obtain ⟨mA, hns, hr⟩ := hx
  obtain ⟨o, ho, hl⟩ := lookIn_ns hns
  refine ⟨oe, some o, ⟨h1, h2.1, no, by rw [h2.2]; exact ho⟩, fun n v z => ?_⟩
  obtain ⟨u, hu, ru⟩ := RelO.some_of (v := v) (o := mA n) (by rw [← z]; exact hr n)
  exact ⟨o, u, rfl, by rw [hl, hu], ru⟩
def tXvf (K : PySem.W.Frag) (n : Str) (te : TE) : TE := fun σ H Q => te σ H fun x H1 => ∃ (a C : Addr) (ns : List Str) (vs : List V) (v : V), x = .ref a ∧ XfC K C ∧ PySem.W.findIn K (.ref C) n = some none ∧ ExAt K H1 a C ns vs ∧ (ns.zip vs).lookup n = some v ∧ Q v H1
theorem pe_xvf {e : Expr} {te : TE} {n : Str} {pos : Pos} (he : PE X e te) (hb : attributeBase e n X.env (eval e X.env) = eval e X.env := by rfl) : PE X (.Attribute e n pos) (tXvf X.K n te) := by
 refine ⟨fun pins s σ H Q I h => ?_⟩
 refine attr_of hb (thn (he.run pins s σ H _ I h) fun u s1 hh => ?_)
 obtain ⟨x, H1, I1, rx, a, C, ns, vs, v, ex, T, hno, hat, hv, q⟩ := hh
 subst ex
 obtain rfl : u = Value.ref a := rx
 obtain ⟨oe, od, J, look⟩ := hat.inst I1
 obtain ⟨o, u, rfl, hu, ru⟩ := look n v hv
 exact HandSPX.exc_get I1.kIn J T.ga T.gg T.exC (PySem.W.findObj_own T.hdC hno rfl hu) (handed_of ru) ⟨v, H1, I1.tok _, ru, q⟩
def rIsX (K : PySem.W.Frag) : List V → Hp → VK → Prop := fun xs H Q => ∃ (a D : Addr) (ns : List Str) (vs : List V) (c : V) (cv : Value) (b : Bool), xs = [.ref a, c] ∧ ExcC K D ∧ ExAt K H a D ns vs ∧ (∀ u, RelV c u → u = cv) ∧ PySem.W.kitOne K (.ref D) cv = some b ∧ Q (.bl b) H
theorem call_isX : CallR X (.builtin "isinstance") (rIsX X.K) := by
 intro pins s σ H xs us Q I r h
 obtain ⟨a, D, ns, vs, c, cv, b, rfl, C, hat, hcv, e, q⟩ := h
 cases r with
 | cons rx rr =>
  cases rr with
  | cons rt rr =>
   cases rr
   cases rx
   have ec := hcv _ rt
   subst ec
   obtain ⟨oe, od, J, _⟩ := hat.inst I
   exact PySem.W.kia_one (PySem.W.dz_kitx C.hg C.hk C.hs C.hd C.ha C.hn C.ht C.hm) I.kIn J e (fun z => nomatch z) fun tk => ⟨.bl b, H, I.kept (t' := tk) fun _ _ z => z, rfl, q⟩
end
end L2
set_option Elab.async false
set_option linter.all false
set_option maxRecDepth 100000
set_option maxHeartbeats 4000000
namespace DL
open PySem PySem.Spec PyProof.Rows L2
def exR (K : PySem.W.Frag) (C : Addr) (ns : List Str) (fs : List D) (k : Hp) (a : Addr) : Prop := ∃ ws, ExAt K k a C ns ws ∧ ws.length = ns.length ∧ RepL K k ws fs
def exD (K : PySem.W.Frag) (C : Addr) (ns : List Str) (fs : List D) : D := .gh (exR K C ns fs)
theorem exAt_mono {K : PySem.W.Frag} {k1 k2 : Hp} {a C : Addr} {ns : List Str} {ws : List V} (e : Same k1 k2) (h : ExAt K k1 a C ns ws) : ExAt K k2 a C ns ws := by
 obtain ⟨od, h1, h2⟩ := h.ex
 refine ⟨od, e _ _ h1, ?_⟩
 cases od with
 | none => exact h2
 | some dd => exact e _ _ h2
theorem exR.mono {K : PySem.W.Frag} {C : Addr} {ns : List Str} {fs : List D} {a : Addr} (k1 k2 : Hp) (e : Same k1 k2) (h : exR K C ns fs k1 a) : exR K C ns fs k2 a := by
 obtain ⟨ws, h1, h2, h3⟩ := h
 exact ⟨ws, exAt_mono e h1, h2, h3.mono e⟩
theorem rep_ex {K : PySem.W.Frag} {C : Addr} {ns : List Str} {fs : List D} {k : Hp} {a : Addr} (h : exR K C ns fs k a) : Rep K k (.ref a) (exD K C ns fs) := .gh exR.mono h
theorem ex_of {K : PySem.W.Frag} {C : Addr} {ns : List Str} {fs : List D} {k : Hp} {v : V} (h : Rep K k v (exD K C ns fs)) : ∃ a, v = .ref a ∧ exR K C ns fs k a := by
 cases h with
 | gh m h => exact ⟨_, rfl, h⟩
theorem rep_look {K : PySem.W.Frag} {k : Hp} {n : Str} {d : D} : ∀ {ns : List Str} {ws : List V} {fs : List D}, ws.length = ns.length → RepL K k ws fs → lookD n ns fs = some d → ∃ v, (ns.zip ws).lookup n = some v ∧ Rep K k v d
 | [], _, _, _, _, h => by cases h
 | m :: ns, [], _, hl, _, _ => by cases hl
 | m :: ns, w :: ws, _, hl, .cons r rs, h => by
  unfold lookD at h
  by_cases e : n = m
  ·subst e
   rw [if_pos rfl] at h
   cases h
   exact ⟨w, by rw [List.zip_cons_cons, List.lookup_cons_self], r⟩
  ·rw [if_neg e] at h
   obtain ⟨v, h1, h2⟩ := rep_look (Nat.succ.inj hl) rs h
   refine ⟨v, ?_, h2⟩
   rw [List.zip_cons_cons, List.lookup_cons, show (n == m) = false by simpa using e]
   exact h1
section
variable {c : Cn} {ς : Sta} {Φ : D → Sta → Prop}
theorem xv_go {C : Addr} {fs : List Str} {vs : List V} {ds : List D} {σ : L2.St} {k h : Hp} {Q : VK} (S : SR c ς σ k h) (r : RepL c.K k vs ds) (hl : vs.length = fs.length) (q : ∀ e k' h', SR c ς σ k' h' → Same k k' → Rep c.K k' (.ref e) (exD c.K C fs ds) → Q (.ref e) h') : XV C vs Q h fs := by
 cases fs with
 | nil =>
  intro e he
  have g : Grow (fun _ => False) k h (upd k e (ExV C none e)) (upd h e (ExV C none e)) := Grow.new S.kh he (by nofun)
  exact q e _ _ (S.grow g) g.kk (rep_ex ⟨vs, ⟨none, upd_same, rfl⟩, hl, r.mono g.kk⟩)
 | cons f fs =>
  intro d e hd he ne
  have g : Grow (fun _ => False) k h (upd k d (.xd ((f :: fs).zip vs))) (upd h d (.xd ((f :: fs).zip vs))) := Grow.new S.kh hd (by nofun)
  have S2 := S.grow g
  have he2 : upd h d (.xd ((f :: fs).zip vs)) e = none := by rw [upd_ne (Ne.symm ne)]; exact he
  have g2 : Grow (fun _ => False) _ _ (upd (upd k d (.xd ((f :: fs).zip vs))) e (ExV C (some d) e)) (upd (upd h d (.xd ((f :: fs).zip vs))) e (ExV C (some d) e)) := Grow.new S2.kh he2 (by nofun)
  refine q e _ _ (S2.grow g2) (g.kk.trans g2.kk) (rep_ex ⟨vs, ⟨some d, upd_same, ?_⟩, hl, r.mono (g.kk.trans g2.kk)⟩)
  show upd (upd k d _) e _ d = _
  rw [upd_ne ne]
  exact upd_same
theorem we_xv {C : Addr} {fs : List Str} {ta : TA} (h : WL c ta ς fun ds ς1 => ds.length = fs.length ∧ Φ (exD c.K C fs ds) ς1) : WE c (tXV C fs ta) ς Φ := fun σ k hh S Q z =>
 h σ k hh S _ fun vs k1 h1 ds ς1 S1 e1 r1 ⟨hl, q⟩ =>
  have lv : vs.length = fs.length := by rw [r1.length, hl]
  ⟨lv, xv_go S1 r1 lv fun e k' h' S2 e2 r2 => z (.ref e) k' h' _ ς1 S2 (e1.trans e2) r2 q⟩
theorem repL_rev {K : PySem.W.Frag} {k : Hp} : ∀ {vs : List V} {ds : List D}, RepL K k vs ds → RepL K k vs.reverse ds.reverse := by
 have app : ∀ {a b : List V} {x y : List D}, RepL K k a x → RepL K k b y → RepL K k (a ++ b) (x ++ y) := by
  intro a
  induction a with
  | nil => intro b x y h1 h2; cases h1; exact h2
  | cons v a ih => intro b x y h1 h2; cases h1 with | cons r rs => exact .cons r (ih rs h2)
 intro vs
 induction vs with
 | nil => intro ds h; cases h; exact .nil
 | cons v vs ih =>
  intro ds h
  cases h with
  | cons r rs =>
   rw [List.reverse_cons, List.reverse_cons]
   exact app (ih rs) (.cons r .nil)
theorem we_xvK {C : Addr} {fs : List Str} {ta : TA} (h : WL c ta ς fun ds ς1 => ds.length = fs.length ∧ Φ (exD c.K C fs ds.reverse) ς1) : WE c (tXVK C fs ta) ς Φ := fun σ k hh S Q z =>
 h σ k hh S _ fun vs k1 h1 ds ς1 S1 e1 r1 ⟨hl, q⟩ =>
  have lv : vs.length = fs.length := by rw [r1.length, hl]
  ⟨lv, xv_go S1 (repL_rev r1) (by rw [List.length_reverse]; exact lv) fun e k' h' S2 e2 r2 => z (.ref e) k' h' _ ς1 S2 (e1.trans e2) r2 q⟩
theorem we_xvf {n : Str} {te : TE} (h : WE c te ς fun d ς1 => ∃ (C : Addr) (ns : List Str) (fs : List D) (x : D), d = exD c.K C ns fs ∧ XfC c.K C ∧ PySem.W.findIn c.K (.ref C) n = some none ∧ lookD n ns fs = some x ∧ Φ x ς1) : WE c (tXvf c.K n te) ς Φ := fun σ k hh S Q z =>
 h σ k hh S _ fun v k1 h1 d ς1 S1 e1 r1 ⟨C, ns, fs, x, ed, xf, hf, hl, q⟩ => by
  subst ed
  obtain ⟨a, rfl, ws, hat, lw, rw_⟩ := ex_of r1
  obtain ⟨u, h3, h4⟩ := rep_look lw rw_ hl
  exact ⟨a, C, ns, ws, u, rfl, xf, hf, exAt_mono S1.kh hat, h3, z u k1 h1 x ς1 S1 e1 h4 q⟩
theorem rc_isX {K : PySem.W.Frag} {Φ : D → Prop} {C : Addr} {ns : List Str} {fs : List D} {D2 : Addr} {b : Bool} (X : ExcC K C) (hk : PySem.W.kitOne K (.ref C) (.ref D2) = some b) (q : Φ (.bl b)) : RC K (rIsX K) [exD K C ns fs, .ref D2] Φ := fun k h vs e r Q z => by
 cases r with
 | cons r1 rs =>
  cases rs with
  | cons r2 rs =>
   cases rs
   obtain ⟨a, rfl, ws, hat, lw, _⟩ := ex_of r1
   cases r2
   exact ⟨a, C, ns, ws, _, .ref D2, b, rfl, X, exAt_mono e hat, fun u hu => hu, hk, z _ k h _ (Grow.refl e) (.bl _) q⟩
theorem rc_isXT {K : PySem.W.Frag} {Φ : D → Prop} {C : Addr} {ns : List Str} {fs : List D} {T : String} {b : Bool} (X : ExcC K C) (hk : PySem.W.kitOne K (.ref C) (.type T) = some b) (q : Φ (.bl b)) : RC K (rIsX K) [exD K C ns fs, .ty T] Φ := fun k h vs e r Q z => by
 cases r with
 | cons r1 rs =>
  cases rs with
  | cons r2 rs =>
   cases rs
   obtain ⟨a, rfl, ws, hat, lw, _⟩ := ex_of r1
   cases r2
   exact ⟨a, C, ns, ws, _, .type T, b, rfl, X, exAt_mono e hat, fun u hu => hu, hk, z _ k h _ (Grow.refl e) (.bl _) q⟩
end
end DL
set_option Elab.async false
set_option linter.all false
set_option maxRecDepth 100000
set_option maxHeartbeats 4000000
namespace PySem.SeqAt
open AutoSeq1 (wpAny_loadPart')
open MeetsSeq MeetsSeq2 MeetsSeq3 SeqRoads2
section
variable {prog : Program} {w : World}
theorem dz_loop (l b : Addr) (items items2 : Array Value) (n n2 : Nat) (dd dd2 : Option Addr) (sl sl2 : Array (Option Value)) (hsz : items.size = items2.size) (k : Nat) :
  ∀ i : Nat, items.size - i = k → MeetsIn prog w (Builtin.«list.__eq__.loop» ⟨[.ref l, .ref b, rawInt i, rawInt 3], []⟩)
   (fun A R s => s.heap.get? l = some { cls := .type "list", dict := dd, data := .seq items n, slots := sl } ∧ s.heap.get? b = some { cls := .type "list", dict := dd2, data := .seq items2 n2, slots := sl2 } ∧
    (∀ j (h1 : j < items.size) (h2 : j < items2.size), EqP prog w A.in1 s items[j] items2[j] true) ∧
    R (.ok (.ret (.bool false))) s) := by
 induction k with
 | zero =>
  intro i hk A R s h
  obtain ⟨hp, g, d, tk, os⟩ := s; obtain ⟨hl, hb, he, h⟩ := h
  wp_walk using wpAny_loadPart' hl, wpAny_loadPart' hb
  have hi1 : items[((i : Nat) : Int).toNat]? = none := by simp; omega
  have hi2 : items2[((i : Nat) : Int).toNat]? = none := by simp; omega
  rw [hi1, hi2]
  wp_walk using wpAny_loadPart' hl, wpAny_loadPart' hb
  show R (.ok (.ret (.bool (items.size != items2.size)))) _
  rw [hsz]
  simpa using h
 | succ k ih =>
  intro i hk A R s h
  obtain ⟨hp, g, d, tk, os⟩ := s; obtain ⟨hl, hb, he, h⟩ := h
  wp_walk using wpAny_loadPart' hl, wpAny_loadPart' hb
  have hlt : i < items.size := by omega
  have hlt2 : i < items2.size := by omega
  have hi1 : items[((i : Nat) : Int).toNat]? = some items[i] := by simp [hlt]
  have hi2 : items2[((i : Nat) : Int).toNat]? = some items2[i] := by simp [hlt2]
  have hc : ((i : Int) + 1) = ((i + 1 : Nat) : Int) := by push_cast; rfl
  rw [hi1, hi2]
  refine wpAny_bind (he i hlt hlt2 _ _ ?_)
  wp_walk
  rw [hc]
  exact ⟨plainId_quiet plain_eq_loop _, codeAny_builtin entry_eq_loop (by
   rw [Around.under_plainId plain_eq_loop _]
   exact ih (i + 1) (by omega) A R _ ⟨hl, hb, he, h⟩)⟩
theorem dz_ne (l b : Addr) (items items2 : Array Value) (n n2 : Nat) (dd dd2 : Option Addr) (sl sl2 : Array (Option Value)) (hsz : items.size = items2.size) :
  MeetsIn prog w (Builtin.«list.__ne__» ⟨[.ref l, .ref b], []⟩)
   (fun A R s => s.heap.get? l = some { cls := .type "list", dict := dd, data := .seq items n, slots := sl } ∧ s.heap.get? b = some { cls := .type "list", dict := dd2, data := .seq items2 n2, slots := sl2 } ∧
    (∀ j (h1 : j < items.size) (h2 : j < items2.size), EqP prog w A.in1 s items[j] items2[j] true) ∧
    R (.ok (.ret (.bool false))) s) := by
 intro A R s h
 obtain ⟨hp, g, d, tk, os⟩ := s; obtain ⟨hl, hb, he, h⟩ := h
 have f3 := AutoSeq1.sub_list_list
 have hne : ¬ (items.size != items2.size) = true := by simp [hsz]
 wp_walk using wpAny_loadPart' hl, wpAny_loadPart' hb
 exact ⟨plainId_quiet plain_eq_loop _, codeAny_builtin entry_eq_loop (by
  rw [Around.under_plainId plain_eq_loop _]
  exact dz_loop l b items items2 n n2 dd dd2 sl sl2 hsz _ 0 rfl A R _ ⟨hl, hb, he, h⟩)⟩
theorem dz_lists {A : Around} {s : Shared} {l b : Addr} {items items2 : Array Value} (hl : s.heap.IsList l items) (hb : s.heap.IsList b items2) (hsz : items.size = items2.size) (hu : A.units < cLine)
  (he : ∀ j (h1 : j < items.size) (h2 : j < items2.size), EqP prog w A.in1 s items[j] items2[j] true) (E Q : Value → Shared → Prop) (h : Q (.bool false) s) : wpAny (model prog w) A (richCompare .NotEq (.ref l) (.ref b)) Q E s := by
 obtain ⟨⟨cls, dd, data, sl⟩, ho, hc, n, hd⟩ := id hl
 obtain ⟨⟨cls2, dd2, data2, sl2⟩, ho2, hc2, n2, hd2⟩ := id hb
 simp only at hc hd hc2 hd2
 subst hc hd hc2 hd2
 have ta : s.TypeIs (.ref l) "list" := ⟨_, ho, rfl⟩
 have tb : s.TypeIs (.ref b) "list" := ⟨_, ho2, rfl⟩
 exact wpAny_richCompare_same_room (op := .NotEq) ta tb F.slot_list_ne (call_meetsIn F.slot_list_ne ta F.entry_list_ne (F.args_list_ne_2 _ _) (dz_ne l b items items2 n n2 dd dd2 sl sl2 hsz)
  ⟨ho, ho2, he, show Value.bool false ≠ Value.notImplemented ∧ Q (.bool false) s from ⟨(fun x => nomatch x), h⟩⟩) hu
end
end PySem.SeqAt
namespace DL
open PySem PySem.Spec PyProof.Rows L2
def rNeV (K : PySem.W.Frag) : R2 := fun x y H Q => ∃ (a b : Addr) (xs ys : List V), x = .ref a ∧ y = .ref b ∧ SqL K H a xs ∧ SqL K H b ys ∧ Paired (fun x y => EqV K H 4 x y ∨ TwT K H 8 x y) xs ys ∧ Q (.bl false) H
section
variable {X : Cx}
theorem op_neV (hu : X.A.units + 64 < cLine) : OpR X (compareOp .NotEq) (rNeV X.K) := by
 intro pins s σ H x y v u Q I rx ry h
 obtain ⟨a, b, xs, ys, rfl, rfl, ha, hb, hp, q⟩ := h
 cases (show v = Value.ref a from rx)
 cases (show u = Value.ref b from ry)
 obtain ⟨us, r1, p1, _⟩ := I.list ha
 obtain ⟨ws, r2, p2, _⟩ := I.list hb
 have hsz : us.toArray.size = ws.toArray.size := by
  rw [List.size_toArray, List.size_toArray, ← r1.length, ← r2.length]
  exact Paired.length hp
 refine SeqAt.dz_lists p1.isList p2.isList hsz (by omega) (fun j h1 h2 => ?_) _ _ ⟨.bl false, H, I, rfl, q⟩
 have k := items_run (A := X.A.in1) (P := X.prog) (w := X.w) (s := s) (F := fun x y => EqV X.K H 4 x y ∨ TwT X.K H 8 x y) (fun x y v u t rv ru => by
  rcases t with t | t
  ·exact eqV_run I 4 X.A.in1 (by show X.A.units + 1 + 4 < cLine; omega) x y v u t rv ru
  ·exact (TwT.tree I t rv ru X.prog X.w).at X.A.in1 (by show X.A.units + 1 + 8 < cLine; omega)) hp r1 r2 j (by simpa using h1) (by simpa using h2)
 simpa using k
end
end DL
set_option Elab.async false
set_option linter.all false
set_option maxRecDepth 100000
set_option maxHeartbeats 4000000
namespace DZ
open PySem PySem.Spec PyProof.Rows L2 He DY
structure KShape (d : XD) (ks : List Str) : Prop where
 len : ks.length = d.fs.length
 bd : ∀ (doc pm : Value) (an : Option Addr) (cdv ct : Value) (cc : Addr) (x : Value) (ws : List Value), ws.length = ks.length → bindArgs (PySem.W.ksFn "__init__" d.qual d.params d.body d.scope .none .none doc pm an cdv ct cc) ⟨[x], ks.zip ws⟩ = pure ((("self" : Str) :: d.fs).zip (x :: ws.reverse))
theorem kwb {K : PySem.W.Frag} {file : Str} {d : XD} {ks : List Str} (e : exF K d.x = d.val) (c : d.ok K file = true) (B : KShape d ks) : KwB K (ini K d.x) d.fs ks := by
 refine ⟨B.len, fun oc' od' fd' osl' lk' s x ws hl => ?_⟩
 unfold XD.ok at c
 obtain ⟨_, c14⟩ := Bool.and_eq_true_iff.mp c
 unfold fnB at c14
 unfold exF at e
 split at c14
 ·rename_i oc od n1 n2 n3 n4 n5 g clo doc pm an cda ct b osl lk
  rw [lk] at e
  have e2 : (some (n1, n2, n3, n4, n5) : ExV) = (some (("__init__" : Str), d.qual, d.params, FuncBody.stmts d.body, d.scope) : ExV) := e
  simp only [Option.some.injEq, Prod.mk.injEq] at e2
  obtain ⟨h1, h2, h3, h4, h5⟩ := e2
  subst h1 h2 h3 h4 h5
  simp only [Bool.and_eq_true, beq_iff_eq] at c14
  obtain ⟨⟨⟨⟨rfl, rfl⟩, z3⟩, z4⟩, z5⟩ := c14
  split at z4
  ·rename_i y cc
   simp only [Bool.and_eq_true, beq_iff_eq] at z4
   obtain ⟨rfl, z4⟩ := z4
   rw [lk] at lk'
   cases lk'
   exact .of_eq (B.bd doc pm an (.ref cda) ct cc (.ref x) ws hl)
  ·cases z4
 ·cases c14
def ecB (K : PySem.W.Frag) (C : Addr) : Bool := xfB K C && eqO (PySem.W.findIn K (.ref C) "__class__") (some (some (.builtin "object.__class__"))) && decide (PySem.W.specialIn K (.builtin "object.__class__") "__get__" = some (some (.builtin "getset_descriptor.__get__"))) && decide (PySem.W.takesIn K (.builtin "object.__class__") = some true) && decide (PySem.W.mroIn K C (.type "object") = some true)
theorem ecB_ok {K : PySem.W.Frag} {C : Addr} (h : ecB K C = true) : XfC K C ∧ ExcC K C := by
 unfold ecB at h
 simp only [Bool.and_eq_true, decide_eq_true_eq] at h
 obtain ⟨⟨⟨⟨h1, h2⟩, h3⟩, h4⟩, h5⟩ := h
 have x := xfB_ok h1
 exact ⟨x, ⟨x.ga, x.gg, x.exC, x.hdC, eqO_ok h2, h3, h4, h5⟩⟩
def xtB (K : PySem.W.Frag) (cs : List Str) (t : Str) : Bool := cs.all fun c => (ecB K (ga K c) && (cs.all fun c' => decide (PySem.W.kitOne K (.ref (ga K c)) (.ref (ga K c')) = some (decide (c = c'))))) && (decide (PySem.W.kitOne K (.ref (ga K c)) (.ref (ga K t)) = some true) && decide (PySem.W.kitOne K (.ref (ga K c)) (.type "ValueError") = some true))
structure XTab (K : PySem.W.Frag) (l : List (Str × Addr)) (t : Addr) : Prop where
 xf : ∀ p ∈ l, XfC K p.2
 ec : ∀ p ∈ l, ExcC K p.2
 is : ∀ p ∈ l, ∀ q ∈ l, PySem.W.kitOne K (.ref p.2) (.ref q.2) = some (decide (p.1 = q.1))
 te : ∀ p ∈ l, PySem.W.kitOne K (.ref p.2) (.ref t) = some true
 ve : ∀ p ∈ l, PySem.W.kitOne K (.ref p.2) (.type "ValueError") = some true
theorem xt_ok {K : PySem.W.Frag} {cs : List Str} {t : Str} (h : xtB K cs t = true) : XTab K (cs.map fun c => (c, ga K c)) (ga K t) := by
 unfold xtB at h
 rw [List.all_eq_true] at h
 have key : ∀ p ∈ cs.map (fun c => (c, ga K c)), ∃ c ∈ cs, p = (c, ga K c) := fun p hp => by
  obtain ⟨c, hc, rfl⟩ := List.mem_map.mp hp
  exact ⟨c, hc, rfl⟩
 refine ⟨fun p hp => ?_, fun p hp => ?_, fun p hp q hq => ?_, fun p hp => ?_, fun p hp => ?_⟩
 all_goals
  obtain ⟨c, hc, rfl⟩ := key p hp
  have z := h c hc
  simp only [Bool.and_eq_true, decide_eq_true_eq, List.all_eq_true] at z
 ·exact (ecB_ok z.1.1).1
 ·exact (ecB_ok z.1.1).2
 ·obtain ⟨c', hc', rfl⟩ := key q hq
  exact z.1.2 c' hc'
 ·exact z.2.1
 ·exact z.2.2
end DZ
set_option Elab.async false
set_option linter.all false
set_option maxRecDepth 100000
set_option maxHeartbeats 4000000
namespace DL
open PySem PySem.Spec PyProof.Rows L2
section
variable {c : Cn} {ς : Sta} {Φ : D → Sta → Prop}
theorem we_disp1C {x : Str} {i : Int} {ky : Key} (hk : kV ky = .str x) (q : Φ (.dct [ky] [.int i]) ς) : WE c (tDisp [(tC (.str x), tC (.int i))]) ς Φ := fun σ k h S Q z p hp => by
 have e1 : ∀ o, upd (upd h p (.dK [])) p o = upd h p o := fun o => by
  funext a
  unfold upd
  split <;> rfl
 refine ⟨upd_same, [(ky, .int i)], by rw [List.map_cons, List.map_nil, hk], by show 1 ≤ 15; decide, ?_⟩
 rw [show mergeK [] [(ky, V.int i)] = [(ky, .int i)] from rfl, e1]
 have g : Grow (fun _ => False) k h (upd k p (.dK [(ky, .int i)])) (upd h p (.dK [(ky, .int i)])) := Grow.new S.kh hp (by nofun)
 exact z _ _ _ _ ς (S.grow g) g.kk (.dct upd_same rfl (.cons (.int i) .nil)) q
end
def xD (d : D) : Bool := twD 8 d || (match d with
 | .dct [_] [.int _] => true
 | _ => false)
theorem xd_cases {d : D} (h : xD d = true) : twD 8 d = true ∨ ∃ ky i, d = .dct [ky] [.int i] := by
 unfold xD at h
 rcases Bool.or_eq_true_iff.mp h with h | h
 ·exact .inl h
 ·split at h
  ·exact .inr ⟨_, _, rfl⟩
  ·cases h
theorem dct1_of {K : PySem.W.Frag} {k : Hp} {v : V} {ky : Key} {i : Int} (r : Rep K k v (.dct [ky] [.int i])) : ∃ a, v = .ref a ∧ k a = some (.dK [(ky, .int i)]) := by
 cases r with
 | dct h1 h2 h3 =>
  rename_i a kvs
  refine ⟨a, rfl, ?_⟩
  match kvs, h2, h3 with
  | [(k2, w2)], h2, h3 =>
   have e2 : k2 = ky := List.head_eq_of_cons_eq (show [k2] = [ky] from h2)
   have h3 : RepL K k [w2] [.int i] := h3
   cases h3 with
   | cons r _ =>
    cases r
    rw [← e2]
    exact h1
theorem xd_rel {K : PySem.W.Frag} {k h : Hp} {d : D} {x y : V} (e : Same k h) (hd : xD d = true) (r1 : Rep K k x d) (r2 : Rep K k y d) : EqV K h 4 x y ∨ TwT K h 8 x y := by
 rcases xd_cases hd with hd | ⟨ky, i, rfl⟩
 ·exact .inr (TwT.of e 8 r1 r2 hd)
 ·obtain ⟨a, rfl, ha⟩ := dct1_of r1
  obtain ⟨b, rfl, hb⟩ := dct1_of r2
  refine .inl (.inr (.inr (.inr ⟨a, b, _, _, rfl, rfl, e _ _ ha, e _ _ hb, rfl, fun p hp => ?_⟩)))
  rw [List.mem_singleton.mp hp]
  exact ⟨.int i, by simp [valV], .inl ⟨rfl, rfl⟩⟩
theorem xd_pairs {K : PySem.W.Frag} {k h : Hp} (e : Same k h) : ∀ {l : List D} {xs ys : List V}, l.all xD = true → RepL K k xs l → RepL K k ys l → Paired (fun x y => EqV K h 4 x y ∨ TwT K h 8 x y) xs ys
 | [], _, _, _, .nil, .nil => .nil
 | d :: l, _, _, hl, .cons r1 t1, .cons r2 t2 => by
  rw [List.all_cons] at hl
  obtain ⟨h1, h2⟩ := Bool.and_eq_true_iff.mp hl
  exact .cons (xd_rel e h1 r1 r2) (xd_pairs e h2 t1 t2)
theorem rd_neV {K : PySem.W.Frag} {Φ : D → Prop} {l : List D} (hl : l.all xD = true) (q : Φ (.bl false)) : RD K (rNeV K) (.lst l) (.lst l) Φ := fun k h v1 v2 e r1 r2 Q z => by
 cases r1 with
 | lst h1 q1 => cases r2 with
  | lst h2 q2 => exact ⟨_, _, _, _, rfl, rfl, SqL.of (e _ _ h1), SqL.of (e _ _ h2), xd_pairs e hl q1 q2, z _ k h _ (Grow.refl e) (.bl _) q⟩
def rNeX (K : PySem.W.Frag) : R2 := fun x y H Q => rNeK K x y H Q ∨ rNeDA x y H Q
theorem op_neX {X : Cx} (hu : X.A.units + 64 < cLine) : OpR X (compareOp .NotEq) (rNeX X.K) := OpR.or (op_neK hu) (op_ne_dictA (by omega))
theorem rd_neX_py {K : PySem.W.Frag} {Φ : D → Prop} {d : D} (h : SeqAt.shaped d.toPy = true) (he : PyData.eqv d.toPy d.toPy = true) (q : Φ (.bl false)) : RD K (rNeX K) d d Φ := fun k hh v1 v2 e r1 r2 Q z =>
 .inl (rd_ne_py h h (by rw [he]; exact q) k hh v1 v2 e r1 r2 Q z)
theorem rd_neX_dct {K : PySem.W.Frag} {Φ : D → Prop} {ky : Key} {i : Int} (q : Φ (.bl false)) : RD K (rNeX K) (.dct [ky] [.int i]) (.dct [ky] [.int i]) Φ := fun k hh v1 v2 e r1 r2 Q z => by
 obtain ⟨a, rfl, ha⟩ := dct1_of r1
 obtain ⟨b, rfl, hb⟩ := dct1_of r2
 refine .inr ⟨a, b, _, _, rfl, rfl, e _ _ ha, e _ _ hb, rfl, fun p hp => ?_, z _ k hh _ (Grow.refl e) (.bl _) q⟩
 rw [List.mem_singleton.mp hp]
 exact ⟨by simp [valV], rfl⟩
end DL
namespace DK
open PySem PySem.Spec PyProof.Rows L2
theorem op_neX {X : Cx} {K : PySem.W.Frag} (hu : X.A.units + 64 < cLine) (h : X.K = K := by rfl) : OpR X (compareOp .NotEq) (DL.rNeX K) := by subst h; exact DL.op_neX hu
theorem op_neV {X : Cx} {K : PySem.W.Frag} (hu : X.A.units + 64 < cLine) (h : X.K = K := by rfl) : OpR X (compareOp .NotEq) (DL.rNeV K) := by subst h; exact DL.op_neV hu
theorem isX {X : Cx} {K : PySem.W.Frag} (h : X.K = K := by rfl) : CallR X (.builtin "isinstance") (rIsX K) := by subst h; exact call_isX
theorem pe_xvf {X : Cx} {K : PySem.W.Frag} {e : Expr} {te : TE} {n : Str} {pos : Pos} (he : PE X e te) (h : X.K = K := by rfl) (hb : attributeBase e n X.env (eval e X.env) = eval e X.env := by rfl) : PE X (.Attribute e n pos) (tXvf K n te) := by subst h; exact L2.pe_xvf he hb
end DK
set_option Elab.async false
set_option linter.all false
set_option maxRecDepth 100000
set_option maxHeartbeats 4000000
namespace K19
open PySem PySem.Spec PyProof.Rows L2 DL
def topS (i : Nat) : Stmt := PySem.Challenge.pw_weaktalks_k19_errors_made.main.body.getD i (.Pass ⟨0, 0, 0, 0⟩)
abbrev s_BadPrime___init__ : Stmt := inClass (topS 2) 0
abbrev s_BadNumber___init__ : Stmt := inClass (topS 3) 0
abbrev s_NoInverse___init__ : Stmt := inClass (topS 4) 0
abbrev s_BadTimes___init__ : Stmt := inClass (topS 5) 0
abbrev s_BadNumbers___init__ : Stmt := inClass (topS 6) 0
abbrev s_UnlikePrimes___init__ : Stmt := inClass (topS 7) 0
abbrev s_BadPoints___init__ : Stmt := inClass (topS 8) 0
abbrev s_BadTerm___init__ : Stmt := inClass (topS 9) 0
abbrev s_BadLetter___init__ : Stmt := inClass (topS 10) 0
abbrev s_BadValues___init__ : Stmt := inClass (topS 11) 0
abbrev s_BadThing___init__ : Stmt := inClass (topS 12) 0
abbrev s_BadLetters___init__ : Stmt := inClass (topS 13) 0
abbrev s_BadCoin___init__ : Stmt := inClass (topS 14) 0
abbrev s_BadDegree___init__ : Stmt := inClass (topS 15) 0
abbrev s_NoPoly___init__ : Stmt := inClass (topS 16) 0
abbrev s_BadBeat___init__ : Stmt := inClass (topS 17) 0
abbrev s_NoBeat___init__ : Stmt := inClass (topS 18) 0
abbrev s_BadThrown___init__ : Stmt := inClass (topS 19) 0
abbrev s_BadMessages___init__ : Stmt := inClass (topS 20) 0
abbrev s_NoSum___init__ : Stmt := inClass (topS 21) 0
abbrev s_Narrow___init__ : Stmt := inClass (topS 22) 0
abbrev s_BadTeller___init__ : Stmt := inClass (topS 23) 0
abbrev s_BadLayer___init__ : Stmt := inClass (topS 24) 0
abbrev s_BadInputs___init__ : Stmt := inClass (topS 25) 0
abbrev s_BadGate___init__ : Stmt := inClass (topS 26) 0
abbrev s_NoLayer___init__ : Stmt := inClass (topS 27) 0
abbrev s_BadPlace___init__ : Stmt := inClass (topS 28) 0
abbrev s_BadCells___init__ : Stmt := inClass (topS 29) 0
abbrev s_BadLook___init__ : Stmt := inClass (topS 30) 0
abbrev s_BadSame___init__ : Stmt := inClass (topS 31) 0
abbrev s_BadLast___init__ : Stmt := inClass (topS 32) 0
abbrev s_BadShare___init__ : Stmt := inClass (topS 33) 0
abbrev s_NotCoin___init__ : Stmt := inClass (topS 34) 0
abbrev s_NotNow___init__ : Stmt := inClass (topS 35) 0
abbrev s_BadText___init__ : Stmt := inClass (topS 36) 0
abbrev s__law_start : Stmt := topS 38
abbrev n__law_start : List Str := ["_law_script"]
theorem sc__law_start : FnScope n__law_start ["_law_script"] (defScope s__law_start) := ⟨rfl, rfl, rfl, by decide +kernel, rfl, by decide +kernel, by decide +kernel⟩
abbrev s__law_draw : Stmt := topS 39
abbrev n__law_draw : List Str := ["_law_stream", "_law_many", "_law_mixed", "_law_cell", "_law_digit"]
theorem sc__law_draw : FnScope n__law_draw ["_law_stream", "_law_many"] (defScope s__law_draw) := ⟨rfl, rfl, rfl, by decide +kernel, rfl, by decide +kernel, by decide +kernel⟩
abbrev s__law_pick : Stmt := topS 40
abbrev n__law_pick : List Str := ["_law_stream", "_law_some"]
theorem sc__law_pick : FnScope n__law_pick ["_law_stream", "_law_some"] (defScope s__law_pick) := ⟨rfl, rfl, rfl, by decide +kernel, rfl, by decide +kernel, by decide +kernel⟩
abbrev s__law_first : Stmt := topS 41
abbrev n__law_first : List Str := ["_law_x", "_law_found"]
theorem sc__law_first : FnScope n__law_first ["_law_x"] (defScope s__law_first) := ⟨rfl, rfl, rfl, by decide +kernel, rfl, by decide +kernel, by decide +kernel⟩
abbrev s__law_second : Stmt := topS 42
abbrev n__law_second : List Str := ["_law_x", "_law_found"]
theorem sc__law_second : FnScope n__law_second ["_law_x"] (defScope s__law_second) := ⟨rfl, rfl, rfl, by decide +kernel, rfl, by decide +kernel, by decide +kernel⟩
abbrev s__law_held : Stmt := topS 43
abbrev n__law_held : List Str := ["_law_e", "_law_found"]
theorem sc__law_held : FnScope n__law_held ["_law_e"] (defScope s__law_held) := ⟨rfl, rfl, rfl, by decide +kernel, rfl, by decide +kernel, by decide +kernel⟩
abbrev s__law_classes : Stmt := topS 44
abbrev n__law_classes : List Str := ["_law_e", "_law_found"]
theorem sc__law_classes : FnScope n__law_classes ["_law_e"] (defScope s__law_classes) := ⟨rfl, rfl, rfl, by decide +kernel, rfl, by decide +kernel, by decide +kernel⟩
abbrev s_law : Stmt := topS 45
abbrev n_law : List Str := ["_law_script", "_law_stream", "_law_turn", "_law_x", "_law_y", "_law_gate", "_law_side", "_law_pairs", "_law_more", "_law_errors", "_law_n", "_law_e", "_law_pair", "_law_one", "_law_k"]
theorem sc_law : FnScope n_law ["_law_script"] (defScope s_law) := ⟨rfl, rfl, rfl, by decide +kernel, rfl, by decide +kernel, by decide +kernel⟩
structure Ad where
 TalkError : Addr
 BadPrime : Addr
 BadNumber : Addr
 NoInverse : Addr
 BadTimes : Addr
 BadNumbers : Addr
 UnlikePrimes : Addr
 BadPoints : Addr
 BadTerm : Addr
 BadLetter : Addr
 BadValues : Addr
 BadThing : Addr
 BadLetters : Addr
 BadCoin : Addr
 BadDegree : Addr
 NoPoly : Addr
 BadBeat : Addr
 NoBeat : Addr
 BadThrown : Addr
 BadMessages : Addr
 NoSum : Addr
 Narrow : Addr
 BadTeller : Addr
 BadLayer : Addr
 BadInputs : Addr
 BadGate : Addr
 NoLayer : Addr
 BadPlace : Addr
 BadCells : Addr
 BadLook : Addr
 BadSame : Addr
 BadLast : Addr
 BadShare : Addr
 NotCoin : Addr
 NotNow : Addr
 BadText : Addr
 cL : Addr
 tL : Addr
structure Tx (P : Program) (K : PySem.W.Frag) (mg : Str → Option Value) (A : Ad) : Prop where
 x_BadPrime : ∃ fI, DX.Txt P K mg "BadPrime" A.BadPrime fI ["prime"]
 x_BadNumber : ∃ fI, DX.Txt P K mg "BadNumber" A.BadNumber fI ["number"]
 x_NoInverse : ∃ fI, DX.Txt P K mg "NoInverse" A.NoInverse fI []
 x_BadTimes : ∃ fI, DX.Txt P K mg "BadTimes" A.BadTimes fI ["times"]
 x_BadNumbers : ∃ fI, DX.Txt P K mg "BadNumbers" A.BadNumbers fI ["index"]
 x_UnlikePrimes : ∃ fI, DX.Txt P K mg "UnlikePrimes" A.UnlikePrimes fI []
 x_BadPoints : ∃ fI, DX.Txt P K mg "BadPoints" A.BadPoints fI ["index"]
 x_BadTerm : ∃ fI, DX.Txt P K mg "BadTerm" A.BadTerm fI ["index"]
 x_BadLetter : ∃ fI, DX.Txt P K mg "BadLetter" A.BadLetter fI ["letter"]
 x_BadValues : ∃ fI, DX.Txt P K mg "BadValues" A.BadValues fI ["letter"]
 x_BadThing : ∃ fI, DX.Txt P K mg "BadThing" A.BadThing fI ["thing"]
 x_BadLetters : ∃ fI, DX.Txt P K mg "BadLetters" A.BadLetters fI ["index"]
 x_BadCoin : ∃ fI, DX.Txt P K mg "BadCoin" A.BadCoin fI ["index"]
 x_BadDegree : ∃ fI, DX.Txt P K mg "BadDegree" A.BadDegree fI ["number"]
 x_NoPoly : ∃ fI, DX.Txt P K mg "NoPoly" A.NoPoly fI []
 x_BadBeat : ∃ fI, DX.Txt P K mg "BadBeat" A.BadBeat fI ["index"]
 x_NoBeat : ∃ fI, DX.Txt P K mg "NoBeat" A.NoBeat fI ["index"]
 x_BadThrown : ∃ fI, DX.Txt P K mg "BadThrown" A.BadThrown fI ["index"]
 x_BadMessages : ∃ fI, DX.Txt P K mg "BadMessages" A.BadMessages fI ["index"]
 x_NoSum : ∃ fI, DX.Txt P K mg "NoSum" A.NoSum fI ["index"]
 x_Narrow : ∃ fI, DX.Txt P K mg "Narrow" A.Narrow fI ["index"]
 x_BadTeller : ∃ fI, DX.Txt P K mg "BadTeller" A.BadTeller fI ["teller"]
 x_BadLayer : ∃ fI, DX.Txt P K mg "BadLayer" A.BadLayer fI ["index"]
 x_BadInputs : ∃ fI, DX.Txt P K mg "BadInputs" A.BadInputs fI ["inputs"]
 x_BadGate : ∃ fI, DX.Txt P K mg "BadGate" A.BadGate fI ["layer", "index"]
 x_NoLayer : ∃ fI, DX.Txt P K mg "NoLayer" A.NoLayer fI ["layer"]
 x_BadPlace : ∃ fI, DX.Txt P K mg "BadPlace" A.BadPlace fI ["thing"]
 x_BadCells : ∃ fI, DX.Txt P K mg "BadCells" A.BadCells fI ["thing"]
 x_BadLook : ∃ fI, DX.Txt P K mg "BadLook" A.BadLook fI ["index"]
 x_BadSame : ∃ fI, DX.Txt P K mg "BadSame" A.BadSame fI ["index"]
 x_BadLast : ∃ fI, DX.Txt P K mg "BadLast" A.BadLast fI ["last"]
 x_BadShare : ∃ fI, DX.Txt P K mg "BadShare" A.BadShare fI ["share"]
 x_NotCoin : ∃ fI, DX.Txt P K mg "NotCoin" A.NotCoin fI ["number"]
 x_NotNow : ∃ fI, DX.Txt P K mg "NotNow" A.NotNow fI []
 x_BadText : ∃ fI, DX.Txt P K mg "BadText" A.BadText fI ["line"]
 m_TalkError : mg "TalkError" = some (.ref A.TalkError)
 m_BadPrime : mg "BadPrime" = some (.ref A.BadPrime)
 m_BadNumber : mg "BadNumber" = some (.ref A.BadNumber)
 m_NoInverse : mg "NoInverse" = some (.ref A.NoInverse)
 m_BadTimes : mg "BadTimes" = some (.ref A.BadTimes)
 m_BadNumbers : mg "BadNumbers" = some (.ref A.BadNumbers)
 m_UnlikePrimes : mg "UnlikePrimes" = some (.ref A.UnlikePrimes)
 m_BadPoints : mg "BadPoints" = some (.ref A.BadPoints)
 m_BadTerm : mg "BadTerm" = some (.ref A.BadTerm)
 m_BadLetter : mg "BadLetter" = some (.ref A.BadLetter)
 m_BadValues : mg "BadValues" = some (.ref A.BadValues)
 m_BadThing : mg "BadThing" = some (.ref A.BadThing)
 m_BadLetters : mg "BadLetters" = some (.ref A.BadLetters)
 m_BadCoin : mg "BadCoin" = some (.ref A.BadCoin)
 m_BadDegree : mg "BadDegree" = some (.ref A.BadDegree)
 m_NoPoly : mg "NoPoly" = some (.ref A.NoPoly)
 m_BadBeat : mg "BadBeat" = some (.ref A.BadBeat)
 m_NoBeat : mg "NoBeat" = some (.ref A.NoBeat)
 m_BadThrown : mg "BadThrown" = some (.ref A.BadThrown)
 m_BadMessages : mg "BadMessages" = some (.ref A.BadMessages)
 m_NoSum : mg "NoSum" = some (.ref A.NoSum)
 m_Narrow : mg "Narrow" = some (.ref A.Narrow)
 m_BadTeller : mg "BadTeller" = some (.ref A.BadTeller)
 m_BadLayer : mg "BadLayer" = some (.ref A.BadLayer)
 m_BadInputs : mg "BadInputs" = some (.ref A.BadInputs)
 m_BadGate : mg "BadGate" = some (.ref A.BadGate)
 m_NoLayer : mg "NoLayer" = some (.ref A.NoLayer)
 m_BadPlace : mg "BadPlace" = some (.ref A.BadPlace)
 m_BadCells : mg "BadCells" = some (.ref A.BadCells)
 m_BadLook : mg "BadLook" = some (.ref A.BadLook)
 m_BadSame : mg "BadSame" = some (.ref A.BadSame)
 m_BadLast : mg "BadLast" = some (.ref A.BadLast)
 m_BadShare : mg "BadShare" = some (.ref A.BadShare)
 m_NotCoin : mg "NotCoin" = some (.ref A.NotCoin)
 m_NotNow : mg "NotNow" = some (.ref A.NotNow)
 m_BadText : mg "BadText" = some (.ref A.BadText)
 xk_BadPrime : ∃ fI, DX.Txt P K mg "BadPrime" A.BadPrime fI ["prime"] ∧ L2.KwB K fI ["prime"] ["prime"]
 xk_BadNumber : ∃ fI, DX.Txt P K mg "BadNumber" A.BadNumber fI ["number"] ∧ L2.KwB K fI ["number"] ["number"]
 xk_BadTimes : ∃ fI, DX.Txt P K mg "BadTimes" A.BadTimes fI ["times"] ∧ L2.KwB K fI ["times"] ["times"]
 xk_BadNumbers : ∃ fI, DX.Txt P K mg "BadNumbers" A.BadNumbers fI ["index"] ∧ L2.KwB K fI ["index"] ["index"]
 xk_BadPoints : ∃ fI, DX.Txt P K mg "BadPoints" A.BadPoints fI ["index"] ∧ L2.KwB K fI ["index"] ["index"]
 xk_BadTerm : ∃ fI, DX.Txt P K mg "BadTerm" A.BadTerm fI ["index"] ∧ L2.KwB K fI ["index"] ["index"]
 xk_BadLetter : ∃ fI, DX.Txt P K mg "BadLetter" A.BadLetter fI ["letter"] ∧ L2.KwB K fI ["letter"] ["letter"]
 xk_BadValues : ∃ fI, DX.Txt P K mg "BadValues" A.BadValues fI ["letter"] ∧ L2.KwB K fI ["letter"] ["letter"]
 xk_BadThing : ∃ fI, DX.Txt P K mg "BadThing" A.BadThing fI ["thing"] ∧ L2.KwB K fI ["thing"] ["thing"]
 xk_BadLetters : ∃ fI, DX.Txt P K mg "BadLetters" A.BadLetters fI ["index"] ∧ L2.KwB K fI ["index"] ["index"]
 xk_BadCoin : ∃ fI, DX.Txt P K mg "BadCoin" A.BadCoin fI ["index"] ∧ L2.KwB K fI ["index"] ["index"]
 xk_BadDegree : ∃ fI, DX.Txt P K mg "BadDegree" A.BadDegree fI ["number"] ∧ L2.KwB K fI ["number"] ["number"]
 xk_BadBeat : ∃ fI, DX.Txt P K mg "BadBeat" A.BadBeat fI ["index"] ∧ L2.KwB K fI ["index"] ["index"]
 xk_NoBeat : ∃ fI, DX.Txt P K mg "NoBeat" A.NoBeat fI ["index"] ∧ L2.KwB K fI ["index"] ["index"]
 xk_BadThrown : ∃ fI, DX.Txt P K mg "BadThrown" A.BadThrown fI ["index"] ∧ L2.KwB K fI ["index"] ["index"]
 xk_BadMessages : ∃ fI, DX.Txt P K mg "BadMessages" A.BadMessages fI ["index"] ∧ L2.KwB K fI ["index"] ["index"]
 xk_NoSum : ∃ fI, DX.Txt P K mg "NoSum" A.NoSum fI ["index"] ∧ L2.KwB K fI ["index"] ["index"]
 xk_Narrow : ∃ fI, DX.Txt P K mg "Narrow" A.Narrow fI ["index"] ∧ L2.KwB K fI ["index"] ["index"]
 xk_BadTeller : ∃ fI, DX.Txt P K mg "BadTeller" A.BadTeller fI ["teller"] ∧ L2.KwB K fI ["teller"] ["teller"]
 xk_BadLayer : ∃ fI, DX.Txt P K mg "BadLayer" A.BadLayer fI ["index"] ∧ L2.KwB K fI ["index"] ["index"]
 xk_BadInputs : ∃ fI, DX.Txt P K mg "BadInputs" A.BadInputs fI ["inputs"] ∧ L2.KwB K fI ["inputs"] ["inputs"]
 xk_NoLayer : ∃ fI, DX.Txt P K mg "NoLayer" A.NoLayer fI ["layer"] ∧ L2.KwB K fI ["layer"] ["layer"]
 xk_BadPlace : ∃ fI, DX.Txt P K mg "BadPlace" A.BadPlace fI ["thing"] ∧ L2.KwB K fI ["thing"] ["thing"]
 xk_BadCells : ∃ fI, DX.Txt P K mg "BadCells" A.BadCells fI ["thing"] ∧ L2.KwB K fI ["thing"] ["thing"]
 xk_BadLook : ∃ fI, DX.Txt P K mg "BadLook" A.BadLook fI ["index"] ∧ L2.KwB K fI ["index"] ["index"]
 xk_BadSame : ∃ fI, DX.Txt P K mg "BadSame" A.BadSame fI ["index"] ∧ L2.KwB K fI ["index"] ["index"]
 xk_BadLast : ∃ fI, DX.Txt P K mg "BadLast" A.BadLast fI ["last"] ∧ L2.KwB K fI ["last"] ["last"]
 xk_BadShare : ∃ fI, DX.Txt P K mg "BadShare" A.BadShare fI ["share"] ∧ L2.KwB K fI ["share"] ["share"]
 xk_NotCoin : ∃ fI, DX.Txt P K mg "NotCoin" A.NotCoin fI ["number"] ∧ L2.KwB K fI ["number"] ["number"]
 xk_BadText : ∃ fI, DX.Txt P K mg "BadText" A.BadText fI ["line"] ∧ L2.KwB K fI ["line"] ["line"]
 xk_BadGate : ∃ fI, DX.Txt P K mg "BadGate" A.BadGate fI ["layer", "index"] ∧ L2.KwB K fI ["layer", "index"] ["index", "layer"]
 xt : DZ.XTab K ([(("BadPrime" : Str), A.BadPrime), (("BadNumber" : Str), A.BadNumber), (("NoInverse" : Str), A.NoInverse), (("BadTimes" : Str), A.BadTimes), (("BadNumbers" : Str), A.BadNumbers), (("UnlikePrimes" : Str), A.UnlikePrimes), (("BadPoints" : Str), A.BadPoints), (("BadTerm" : Str), A.BadTerm), (("BadLetter" : Str), A.BadLetter), (("BadValues" : Str), A.BadValues), (("BadThing" : Str), A.BadThing), (("BadLetters" : Str), A.BadLetters), (("BadCoin" : Str), A.BadCoin), (("BadDegree" : Str), A.BadDegree), (("NoPoly" : Str), A.NoPoly), (("BadBeat" : Str), A.BadBeat), (("NoBeat" : Str), A.NoBeat), (("BadThrown" : Str), A.BadThrown), (("BadMessages" : Str), A.BadMessages), (("NoSum" : Str), A.NoSum), (("Narrow" : Str), A.Narrow), (("BadTeller" : Str), A.BadTeller), (("BadLayer" : Str), A.BadLayer), (("BadInputs" : Str), A.BadInputs), (("BadGate" : Str), A.BadGate), (("NoLayer" : Str), A.NoLayer), (("BadPlace" : Str), A.BadPlace), (("BadCells" : Str), A.BadCells), (("BadLook" : Str), A.BadLook), (("BadSame" : Str), A.BadSame), (("BadLast" : Str), A.BadLast), (("BadShare" : Str), A.BadShare), (("NotCoin" : Str), A.NotCoin), (("NotNow" : Str), A.NotNow), (("BadText" : Str), A.BadText)] : List (Str × Addr)) A.TalkError
 f__law_start : ∃ (a : Addr) (fd : FuncData), Fun K "_law_start" "_law_start" s__law_start a fd ∧ mg "_law_start" = some (.ref a) ∧ Binds K fd ["_law_script"] []
 f__law_draw : ∃ (a : Addr) (fd : FuncData), Fun K "_law_draw" "_law_draw" s__law_draw a fd ∧ mg "_law_draw" = some (.ref a) ∧ Binds K fd ["_law_stream", "_law_many"] []
 f__law_pick : ∃ (a : Addr) (fd : FuncData), Fun K "_law_pick" "_law_pick" s__law_pick a fd ∧ mg "_law_pick" = some (.ref a) ∧ Binds K fd ["_law_stream", "_law_some"] []
 f__law_first : ∃ (a : Addr) (fd : FuncData), Fun K "_law_first" "_law_first" s__law_first a fd ∧ mg "_law_first" = some (.ref a) ∧ Binds K fd ["_law_x"] []
 f__law_second : ∃ (a : Addr) (fd : FuncData), Fun K "_law_second" "_law_second" s__law_second a fd ∧ mg "_law_second" = some (.ref a) ∧ Binds K fd ["_law_x"] []
 f__law_held : ∃ (a : Addr) (fd : FuncData), Fun K "_law_held" "_law_held" s__law_held a fd ∧ mg "_law_held" = some (.ref a) ∧ Binds K fd ["_law_e"] []
 f__law_classes : ∃ (a : Addr) (fd : FuncData), Fun K "_law_classes" "_law_classes" s__law_classes a fd ∧ mg "_law_classes" = some (.ref a) ∧ Binds K fd ["_law_e"] []
 f_law : ∃ (a : Addr) (fd : FuncData), Fun K "law" "law" s_law a fd ∧ mg "law" = some (.ref a) ∧ Binds K fd ["_law_script"] []
 z_ValueError : mg "ValueError" = none
 z_any : mg "any" = none
 z_bool : mg "bool" = none
 z_enumerate : mg "enumerate" = none
 z_int : mg "int" = none
 z_isinstance : mg "isinstance" = none
 z_len : mg "len" = none
 z_list : mg "list" = none
 z_range : mg "range" = none
 c_law : ∀ (a : Addr) (oc : Value) (od : Option Addr) (fd : FuncData) (osl : Array (Option Value)) (cc : Addr), mg "law" = some (.ref a) → K.lookup a = some ⟨oc, od, .func fd, osl⟩ → fd.code = .ref cc → cc = A.cL
section
variable {P : Program} {w : World} {K : PySem.W.Frag} {mg : Str → Option Value} {base : Heap} {A : Ad}
local macro_rules | `(tactic| walk_at "s0") => `(tactic| with_reducible first
 | refine ws_seq ?_ | refine ws_next ?_ | refine ws_ret ?_ | refine ws_retN ?_ | refine ws_if ?_ | refine ws_asg ?_ | refine ws_drop ?_ | refine ws_par ?_ | refine ws_break ?_ | refine ws_cont ?_
 | refine we_var rfl ?_ | refine we_int ?_ | refine we_non ?_ | refine we_bl ?_ | refine we_str ?_ | refine we_ty ?_ | refine we_dnew ?_ | refine we_op ?_ | refine we_un ?_
 | refine we_and ?_ | refine we_or ?_ | refine we_not ?_ | refine we_if ?_ | refine we_chain ?_ | refine we_cb ?_ | refine we_tup ?_ | refine we_lst ?_
 | refine wl_cons ?_ | refine wl_nil ?_ | refine wt_B ?_ | refine wt_test ?_ | refine wt_and ?_ | refine wt_or ?_ | refine wt_not ?_ | refine wt_yes ?_
 | refine wi_tup ?_ | refine wi_list ?_ | refine wg_tup rfl ?_ | refine wgs_cons ?_ | refine wgs_nil ?_
 | refine rd_add_int ?_ | refine rd_sub ?_ | refine rd_lt ?_ | refine rd_le ?_ | refine rd_gt ?_ | refine rd_ge ?_ | refine rd_eq_int ?_ | refine rd_ne_int ?_ | refine rd_eq_str ?_ | refine rd_ne_str ?_ | refine rd_eq_bl ?_ | refine rd_ne_bl ?_ | refine rd_is ?_ | refine rd_is_bl ?_ | refine rd_isnot ?_ | refine ru_neg ?_
 | refine rc_int ?_ | refine rc_abs ?_ | refine rc_anyF ?_ | refine rc_allF ?_
 | refine brT ?_ | refine brF ?_ | refine brT' ?_ | refine brF' ?_
 | refine ⟨_, rfl, ?_⟩)
set_option hygiene false in
local macro_rules | `(tactic| walk_at "s1") => `(tactic| first
 | refine we_isiLT ?_ | refine we_isiILT ?_ | refine wi_seqV (by rfl) (by rfl) ?_ | walk_at "s0" | refine ⟨true, by rfl, ?_⟩ | refine ⟨false, by rfl, ?_⟩ | refine we_ref ?_ | refine we_fld1 ?_ | refine rc_isiB (r := true) (by rfl) ?_ | refine we_callF (by assumption) ?_ | refine we_callF xok0 ?_ | refine we_callFl (by assumption) ?_ | refine we_callFl xok0 ?_ | refine we_makeFl (by assumption) ?_ | refine we_makeFl xok0 ?_ | refine we_makeF (by assumption) ?_ | refine we_makeF xok0 ?_ | refine DX.ws_rs (by assumption) ?_ | refine wt_test ?_ | refine co_ret rfl (by rfl) ?_ | refine wg_nm (by rfl) ?_ | refine parB (by rfl) (by rfl) ?_ | refine szB (by rfl) ?_ | refine szL (by rfl) ?_ | refine brT2 (by rfl) ?_ | refine brF2 (by rfl) ?_ | refine brT3 (by rfl) ?_ | refine brF3 (by rfl) ?_ | refine rc_isiB (r := false) (by rfl) ?_)
set_option pp.maxSteps 300
def prX (K : PySem.W.Frag) (C : Addr) (f : Str) (x : D) : D := .tup [exD K C [f] [x], exD K C [f] [x]]
def gPrs (K : PySem.W.Frag) (l : List (Addr × Str)) : List D → Option Out
 | [x] => some (.ret (.lst (l.map fun p => prX K p.1 p.2 x)))
 | _ => none
def tabF (A : Ad) : List (Addr × Str) := [(A.BadPrime, "prime"), (A.BadNumber, "number"), (A.BadTimes, "times"), (A.BadNumbers, "index"), (A.BadPoints, "index"), (A.BadTerm, "index"), (A.BadLetter, "letter"), (A.BadValues, "letter"), (A.BadThing, "thing"), (A.BadLetters, "index"), (A.BadCoin, "index"), (A.BadDegree, "number"), (A.BadBeat, "index"), (A.NoBeat, "index"), (A.BadThrown, "index"), (A.BadMessages, "index"), (A.NoSum, "index"), (A.Narrow, "index")]
theorem ok_law_first (T : Tx P K mg A) : CalX P w K mg base 4 "_law_first" (SpS K 1 (spcF (gPrs K (tabF A)))) := by
 obtain ⟨a, fd, F, m, bi⟩ := T.f__law_first
 refine ⟨a, fd, _, fnS F sc__law_first rfl (fun cdv A' outer sh H E hr => ⟨_, (pss_cons (ps_asg (pe_lst (pa_cons (pe_tup (pa_cons (L2.pe_xv T.x_BadPrime (by decide) (by decide) hr (pa_cons (pv 0) pa_nil)) (pa_cons (L2.pe_xvK T.xk_BadPrime (by decide) (by decide) hr (L2.pk_cons (pv 0) L2.pk_nil)) pa_nil))) (pa_cons (pe_tup (pa_cons (L2.pe_xv T.x_BadNumber (by decide) (by decide) hr (pa_cons (pv 0) pa_nil)) (pa_cons (L2.pe_xvK T.xk_BadNumber (by decide) (by decide) hr (L2.pk_cons (pv 0) L2.pk_nil)) pa_nil))) (pa_cons (pe_tup (pa_cons (L2.pe_xv T.x_BadTimes (by decide) (by decide) hr (pa_cons (pv 0) pa_nil)) (pa_cons (L2.pe_xvK T.xk_BadTimes (by decide) (by decide) hr (L2.pk_cons (pv 0) L2.pk_nil)) pa_nil))) pa_nil)))) (pg_name (i := 1) sc__law_first.nd rfl (by first | exact .inl rfl | exact .inr rfl)))
 (pss_cons (ps_expr (pe_bm PySem.F.plainAttrs_list PySem.F.slot_list_extend PySem.F.type_list_extend mt_extend (pv 1) (pa_cons (pe_lst (pa_cons (pe_tup (pa_cons (L2.pe_xv T.x_BadNumbers (by decide) (by decide) hr (pa_cons (pv 0) pa_nil)) (pa_cons (L2.pe_xvK T.xk_BadNumbers (by decide) (by decide) hr (L2.pk_cons (pv 0) L2.pk_nil)) pa_nil))) (pa_cons (pe_tup (pa_cons (L2.pe_xv T.x_BadPoints (by decide) (by decide) hr (pa_cons (pv 0) pa_nil)) (pa_cons (L2.pe_xvK T.xk_BadPoints (by decide) (by decide) hr (L2.pk_cons (pv 0) L2.pk_nil)) pa_nil))) pa_nil))) pa_nil)))
 (pss_cons (ps_expr (pe_bm PySem.F.plainAttrs_list PySem.F.slot_list_extend PySem.F.type_list_extend mt_extend (pv 1) (pa_cons (pe_lst (pa_cons (pe_tup (pa_cons (L2.pe_xv T.x_BadTerm (by decide) (by decide) hr (pa_cons (pv 0) pa_nil)) (pa_cons (L2.pe_xvK T.xk_BadTerm (by decide) (by decide) hr (L2.pk_cons (pv 0) L2.pk_nil)) pa_nil))) (pa_cons (pe_tup (pa_cons (L2.pe_xv T.x_BadLetter (by decide) (by decide) hr (pa_cons (pv 0) pa_nil)) (pa_cons (L2.pe_xvK T.xk_BadLetter (by decide) (by decide) hr (L2.pk_cons (pv 0) L2.pk_nil)) pa_nil))) pa_nil))) pa_nil)))
 (pss_cons (ps_expr (pe_bm PySem.F.plainAttrs_list PySem.F.slot_list_extend PySem.F.type_list_extend mt_extend (pv 1) (pa_cons (pe_lst (pa_cons (pe_tup (pa_cons (L2.pe_xv T.x_BadValues (by decide) (by decide) hr (pa_cons (pv 0) pa_nil)) (pa_cons (L2.pe_xvK T.xk_BadValues (by decide) (by decide) hr (L2.pk_cons (pv 0) L2.pk_nil)) pa_nil))) (pa_cons (pe_tup (pa_cons (L2.pe_xv T.x_BadThing (by decide) (by decide) hr (pa_cons (pv 0) pa_nil)) (pa_cons (L2.pe_xvK T.xk_BadThing (by decide) (by decide) hr (L2.pk_cons (pv 0) L2.pk_nil)) pa_nil))) pa_nil))) pa_nil)))
 (pss_cons (ps_expr (pe_bm PySem.F.plainAttrs_list PySem.F.slot_list_extend PySem.F.type_list_extend mt_extend (pv 1) (pa_cons (pe_lst (pa_cons (pe_tup (pa_cons (L2.pe_xv T.x_BadLetters (by decide) (by decide) hr (pa_cons (pv 0) pa_nil)) (pa_cons (L2.pe_xvK T.xk_BadLetters (by decide) (by decide) hr (L2.pk_cons (pv 0) L2.pk_nil)) pa_nil))) (pa_cons (pe_tup (pa_cons (L2.pe_xv T.x_BadCoin (by decide) (by decide) hr (pa_cons (pv 0) pa_nil)) (pa_cons (L2.pe_xvK T.xk_BadCoin (by decide) (by decide) hr (L2.pk_cons (pv 0) L2.pk_nil)) pa_nil))) pa_nil))) pa_nil)))
 (pss_cons (ps_expr (pe_bm PySem.F.plainAttrs_list PySem.F.slot_list_extend PySem.F.type_list_extend mt_extend (pv 1) (pa_cons (pe_lst (pa_cons (pe_tup (pa_cons (L2.pe_xv T.x_BadDegree (by decide) (by decide) hr (pa_cons (pv 0) pa_nil)) (pa_cons (L2.pe_xvK T.xk_BadDegree (by decide) (by decide) hr (L2.pk_cons (pv 0) L2.pk_nil)) pa_nil))) (pa_cons (pe_tup (pa_cons (L2.pe_xv T.x_BadBeat (by decide) (by decide) hr (pa_cons (pv 0) pa_nil)) (pa_cons (L2.pe_xvK T.xk_BadBeat (by decide) (by decide) hr (L2.pk_cons (pv 0) L2.pk_nil)) pa_nil))) (pa_cons (pe_tup (pa_cons (L2.pe_xv T.x_NoBeat (by decide) (by decide) hr (pa_cons (pv 0) pa_nil)) (pa_cons (L2.pe_xvK T.xk_NoBeat (by decide) (by decide) hr (L2.pk_cons (pv 0) L2.pk_nil)) pa_nil))) pa_nil)))) pa_nil)))
 (pss_cons (ps_expr (pe_bm PySem.F.plainAttrs_list PySem.F.slot_list_extend PySem.F.type_list_extend mt_extend (pv 1) (pa_cons (pe_lst (pa_cons (pe_tup (pa_cons (L2.pe_xv T.x_BadThrown (by decide) (by decide) hr (pa_cons (pv 0) pa_nil)) (pa_cons (L2.pe_xvK T.xk_BadThrown (by decide) (by decide) hr (L2.pk_cons (pv 0) L2.pk_nil)) pa_nil))) (pa_cons (pe_tup (pa_cons (L2.pe_xv T.x_BadMessages (by decide) (by decide) hr (pa_cons (pv 0) pa_nil)) (pa_cons (L2.pe_xvK T.xk_BadMessages (by decide) (by decide) hr (L2.pk_cons (pv 0) L2.pk_nil)) pa_nil))) pa_nil))) pa_nil)))
 (pss_one (ps_ret (pe_op (DK.op_add (K := K)) (pv 1) (pe_lst (pa_cons (pe_tup (pa_cons (L2.pe_xv T.x_NoSum (by decide) (by decide) hr (pa_cons (pv 0) pa_nil)) (pa_cons (L2.pe_xvK T.xk_NoSum (by decide) (by decide) hr (L2.pk_cons (pv 0) L2.pk_nil)) pa_nil))) (pa_cons (pe_tup (pa_cons (L2.pe_xv T.x_Narrow (by decide) (by decide) hr (pa_cons (pv 0) pa_nil)) (pa_cons (L2.pe_xvK T.xk_Narrow (by decide) (by decide) hr (L2.pk_cons (pv 0) L2.pk_nil)) pa_nil))) pa_nil))))))))))))), fun R k0 ds b hp hl hE => ?_⟩), m, F.kp, bi⟩
 obtain ⟨o, ho⟩ := hp
 obtain ⟨x, rfl⟩ : ∃ x, ds = [x] := by
  match ds, hl with
  | [x], _ => exact ⟨x, rfl⟩
 clear ho
 dsimp only [startD, List.map, List.append, List.replicate]
 refine ws_seq (ws_asg (we_lstM ?_))
 refine wl_cons (we_tup (wl_cons (we_xv (wl_cons (we_var rfl (wl_nil ⟨rfl, ?_⟩))))))
 refine wl_cons (we_xvK (wl_cons (we_var rfl (wl_nil ⟨rfl, wl_nil (szB rfl ?_)⟩))))
 refine wl_cons (we_tup (wl_cons (we_xv (wl_cons (we_var rfl (wl_nil ⟨rfl, ?_⟩))))))
 refine wl_cons (we_xvK (wl_cons (we_var rfl (wl_nil ⟨rfl, wl_nil (szB rfl ?_)⟩))))
 refine wl_cons (we_tup (wl_cons (we_xv (wl_cons (we_var rfl (wl_nil ⟨rfl, ?_⟩))))))
 refine wl_cons (we_xvK (wl_cons (we_var rfl (wl_nil ⟨rfl, wl_nil (szB rfl ?_)⟩))))
 refine wl_nil (szB rfl fun q nq => wg_nm (by rfl) ?_)
 dsimp only [List.set]
 refine ws_seq (ws_extend (j := 0) (o := q) (ds := [prX K A.BadPrime "prime" x, prX K A.BadNumber "number" x, prX K A.BadTimes "times" x]) (fun _ _ _ z => (nomatch z)) (we_var rfl ⟨rfl, ⟨_, rfl⟩, we_lst ?_⟩))
 refine wl_cons (we_tup (wl_cons (we_xv (wl_cons (we_var rfl (wl_nil ⟨rfl, ?_⟩))))))
 refine wl_cons (we_xvK (wl_cons (we_var rfl (wl_nil ⟨rfl, wl_nil (szB rfl ?_)⟩))))
 refine wl_cons (we_tup (wl_cons (we_xv (wl_cons (we_var rfl (wl_nil ⟨rfl, ?_⟩))))))
 refine wl_cons (we_xvK (wl_cons (we_var rfl (wl_nil ⟨rfl, wl_nil (szB rfl ?_)⟩))))
 refine wl_nil (szB rfl ⟨_, rfl, rfl, le_size (show 3 + 2 ≤ 16777216 by decide), ?_⟩)
 dsimp only [List.set, List.append]
 refine ws_seq (ws_extend (j := 0) (o := q) (ds := [prX K A.BadPrime "prime" x, prX K A.BadNumber "number" x, prX K A.BadTimes "times" x, prX K A.BadNumbers "index" x, prX K A.BadPoints "index" x]) (fun _ _ _ z => (nomatch z)) (we_var rfl ⟨rfl, ⟨_, rfl⟩, we_lst ?_⟩))
 refine wl_cons (we_tup (wl_cons (we_xv (wl_cons (we_var rfl (wl_nil ⟨rfl, ?_⟩))))))
 refine wl_cons (we_xvK (wl_cons (we_var rfl (wl_nil ⟨rfl, wl_nil (szB rfl ?_)⟩))))
 refine wl_cons (we_tup (wl_cons (we_xv (wl_cons (we_var rfl (wl_nil ⟨rfl, ?_⟩))))))
 refine wl_cons (we_xvK (wl_cons (we_var rfl (wl_nil ⟨rfl, wl_nil (szB rfl ?_)⟩))))
 refine wl_nil (szB rfl ⟨_, rfl, rfl, le_size (show 5 + 2 ≤ 16777216 by decide), ?_⟩)
 dsimp only [List.set, List.append]
 refine ws_seq (ws_extend (j := 0) (o := q) (ds := [prX K A.BadPrime "prime" x, prX K A.BadNumber "number" x, prX K A.BadTimes "times" x, prX K A.BadNumbers "index" x, prX K A.BadPoints "index" x, prX K A.BadTerm "index" x, prX K A.BadLetter "letter" x]) (fun _ _ _ z => (nomatch z)) (we_var rfl ⟨rfl, ⟨_, rfl⟩, we_lst ?_⟩))
 refine wl_cons (we_tup (wl_cons (we_xv (wl_cons (we_var rfl (wl_nil ⟨rfl, ?_⟩))))))
 refine wl_cons (we_xvK (wl_cons (we_var rfl (wl_nil ⟨rfl, wl_nil (szB rfl ?_)⟩))))
 refine wl_cons (we_tup (wl_cons (we_xv (wl_cons (we_var rfl (wl_nil ⟨rfl, ?_⟩))))))
 refine wl_cons (we_xvK (wl_cons (we_var rfl (wl_nil ⟨rfl, wl_nil (szB rfl ?_)⟩))))
 refine wl_nil (szB rfl ⟨_, rfl, rfl, le_size (show 7 + 2 ≤ 16777216 by decide), ?_⟩)
 dsimp only [List.set, List.append]
 refine ws_seq (ws_extend (j := 0) (o := q) (ds := [prX K A.BadPrime "prime" x, prX K A.BadNumber "number" x, prX K A.BadTimes "times" x, prX K A.BadNumbers "index" x, prX K A.BadPoints "index" x, prX K A.BadTerm "index" x, prX K A.BadLetter "letter" x, prX K A.BadValues "letter" x, prX K A.BadThing "thing" x]) (fun _ _ _ z => (nomatch z)) (we_var rfl ⟨rfl, ⟨_, rfl⟩, we_lst ?_⟩))
 refine wl_cons (we_tup (wl_cons (we_xv (wl_cons (we_var rfl (wl_nil ⟨rfl, ?_⟩))))))
 refine wl_cons (we_xvK (wl_cons (we_var rfl (wl_nil ⟨rfl, wl_nil (szB rfl ?_)⟩))))
 refine wl_cons (we_tup (wl_cons (we_xv (wl_cons (we_var rfl (wl_nil ⟨rfl, ?_⟩))))))
 refine wl_cons (we_xvK (wl_cons (we_var rfl (wl_nil ⟨rfl, wl_nil (szB rfl ?_)⟩))))
 refine wl_nil (szB rfl ⟨_, rfl, rfl, le_size (show 9 + 2 ≤ 16777216 by decide), ?_⟩)
 dsimp only [List.set, List.append]
 refine ws_seq (ws_extend (j := 0) (o := q) (ds := [prX K A.BadPrime "prime" x, prX K A.BadNumber "number" x, prX K A.BadTimes "times" x, prX K A.BadNumbers "index" x, prX K A.BadPoints "index" x, prX K A.BadTerm "index" x, prX K A.BadLetter "letter" x, prX K A.BadValues "letter" x, prX K A.BadThing "thing" x, prX K A.BadLetters "index" x, prX K A.BadCoin "index" x]) (fun _ _ _ z => (nomatch z)) (we_var rfl ⟨rfl, ⟨_, rfl⟩, we_lst ?_⟩))
 refine wl_cons (we_tup (wl_cons (we_xv (wl_cons (we_var rfl (wl_nil ⟨rfl, ?_⟩))))))
 refine wl_cons (we_xvK (wl_cons (we_var rfl (wl_nil ⟨rfl, wl_nil (szB rfl ?_)⟩))))
 refine wl_cons (we_tup (wl_cons (we_xv (wl_cons (we_var rfl (wl_nil ⟨rfl, ?_⟩))))))
 refine wl_cons (we_xvK (wl_cons (we_var rfl (wl_nil ⟨rfl, wl_nil (szB rfl ?_)⟩))))
 refine wl_cons (we_tup (wl_cons (we_xv (wl_cons (we_var rfl (wl_nil ⟨rfl, ?_⟩))))))
 refine wl_cons (we_xvK (wl_cons (we_var rfl (wl_nil ⟨rfl, wl_nil (szB rfl ?_)⟩))))
 refine wl_nil (szB rfl ⟨_, rfl, rfl, le_size (show 11 + 3 ≤ 16777216 by decide), ?_⟩)
 dsimp only [List.set, List.append]
 refine ws_seq (ws_extend (j := 0) (o := q) (ds := [prX K A.BadPrime "prime" x, prX K A.BadNumber "number" x, prX K A.BadTimes "times" x, prX K A.BadNumbers "index" x, prX K A.BadPoints "index" x, prX K A.BadTerm "index" x, prX K A.BadLetter "letter" x, prX K A.BadValues "letter" x, prX K A.BadThing "thing" x, prX K A.BadLetters "index" x, prX K A.BadCoin "index" x, prX K A.BadDegree "number" x, prX K A.BadBeat "index" x, prX K A.NoBeat "index" x]) (fun _ _ _ z => (nomatch z)) (we_var rfl ⟨rfl, ⟨_, rfl⟩, we_lst ?_⟩))
 refine wl_cons (we_tup (wl_cons (we_xv (wl_cons (we_var rfl (wl_nil ⟨rfl, ?_⟩))))))
 refine wl_cons (we_xvK (wl_cons (we_var rfl (wl_nil ⟨rfl, wl_nil (szB rfl ?_)⟩))))
 refine wl_cons (we_tup (wl_cons (we_xv (wl_cons (we_var rfl (wl_nil ⟨rfl, ?_⟩))))))
 refine wl_cons (we_xvK (wl_cons (we_var rfl (wl_nil ⟨rfl, wl_nil (szB rfl ?_)⟩))))
 refine wl_nil (szB rfl ⟨_, rfl, rfl, le_size (show 14 + 2 ≤ 16777216 by decide), ?_⟩)
 dsimp only [List.set, List.append]
 refine ws_freeze (i := 1) (j := 0) rfl rfl rfl ?_
 dsimp only [List.set, List.eraseIdx]
 refine ws_ret (we_op (we_var rfl (we_lst ?_)))
 refine wl_cons (we_tup (wl_cons (we_xv (wl_cons (we_var rfl (wl_nil ⟨rfl, ?_⟩))))))
 refine wl_cons (we_xvK (wl_cons (we_var rfl (wl_nil ⟨rfl, wl_nil (szB rfl ?_)⟩))))
 refine wl_cons (we_tup (wl_cons (we_xv (wl_cons (we_var rfl (wl_nil ⟨rfl, ?_⟩))))))
 refine wl_cons (we_xvK (wl_cons (we_var rfl (wl_nil ⟨rfl, wl_nil (szB rfl ?_)⟩))))
 exact wl_nil (szB rfl (rd_add_lst (le_size (show 16 + 2 ≤ 16777216 by decide)) ⟨rfl, rfl⟩))
def tabS (A : Ad) : List (Addr × Str) := [(A.BadTeller, "teller"), (A.BadLayer, "index"), (A.BadInputs, "inputs"), (A.NoLayer, "layer"), (A.BadPlace, "thing"), (A.BadCells, "thing"), (A.BadLook, "index"), (A.BadSame, "index"), (A.BadLast, "last"), (A.BadShare, "share"), (A.NotCoin, "number"), (A.BadText, "line")]
theorem ok_law_second (T : Tx P K mg A) : CalX P w K mg base 4 "_law_second" (SpS K 1 (spcF (gPrs K (tabS A)))) := by
 obtain ⟨a, fd, F, m, bi⟩ := T.f__law_second
 refine ⟨a, fd, _, fnS F sc__law_second rfl (fun cdv A' outer sh H E hr => ⟨_, (pss_cons (ps_asg (pe_lst (pa_cons (pe_tup (pa_cons (L2.pe_xv T.x_BadTeller (by decide) (by decide) hr (pa_cons (pv 0) pa_nil)) (pa_cons (L2.pe_xvK T.xk_BadTeller (by decide) (by decide) hr (L2.pk_cons (pv 0) L2.pk_nil)) pa_nil))) (pa_cons (pe_tup (pa_cons (L2.pe_xv T.x_BadLayer (by decide) (by decide) hr (pa_cons (pv 0) pa_nil)) (pa_cons (L2.pe_xvK T.xk_BadLayer (by decide) (by decide) hr (L2.pk_cons (pv 0) L2.pk_nil)) pa_nil))) pa_nil))) (pg_name (i := 1) sc__law_second.nd rfl (by first | exact .inl rfl | exact .inr rfl)))
 (pss_cons (ps_expr (pe_bm PySem.F.plainAttrs_list PySem.F.slot_list_extend PySem.F.type_list_extend mt_extend (pv 1) (pa_cons (pe_lst (pa_cons (pe_tup (pa_cons (L2.pe_xv T.x_BadInputs (by decide) (by decide) hr (pa_cons (pv 0) pa_nil)) (pa_cons (L2.pe_xvK T.xk_BadInputs (by decide) (by decide) hr (L2.pk_cons (pv 0) L2.pk_nil)) pa_nil))) (pa_cons (pe_tup (pa_cons (L2.pe_xv T.x_NoLayer (by decide) (by decide) hr (pa_cons (pv 0) pa_nil)) (pa_cons (L2.pe_xvK T.xk_NoLayer (by decide) (by decide) hr (L2.pk_cons (pv 0) L2.pk_nil)) pa_nil))) pa_nil))) pa_nil)))
 (pss_cons (ps_expr (pe_bm PySem.F.plainAttrs_list PySem.F.slot_list_extend PySem.F.type_list_extend mt_extend (pv 1) (pa_cons (pe_lst (pa_cons (pe_tup (pa_cons (L2.pe_xv T.x_BadPlace (by decide) (by decide) hr (pa_cons (pv 0) pa_nil)) (pa_cons (L2.pe_xvK T.xk_BadPlace (by decide) (by decide) hr (L2.pk_cons (pv 0) L2.pk_nil)) pa_nil))) (pa_cons (pe_tup (pa_cons (L2.pe_xv T.x_BadCells (by decide) (by decide) hr (pa_cons (pv 0) pa_nil)) (pa_cons (L2.pe_xvK T.xk_BadCells (by decide) (by decide) hr (L2.pk_cons (pv 0) L2.pk_nil)) pa_nil))) pa_nil))) pa_nil)))
 (pss_cons (ps_expr (pe_bm PySem.F.plainAttrs_list PySem.F.slot_list_extend PySem.F.type_list_extend mt_extend (pv 1) (pa_cons (pe_lst (pa_cons (pe_tup (pa_cons (L2.pe_xv T.x_BadLook (by decide) (by decide) hr (pa_cons (pv 0) pa_nil)) (pa_cons (L2.pe_xvK T.xk_BadLook (by decide) (by decide) hr (L2.pk_cons (pv 0) L2.pk_nil)) pa_nil))) (pa_cons (pe_tup (pa_cons (L2.pe_xv T.x_BadSame (by decide) (by decide) hr (pa_cons (pv 0) pa_nil)) (pa_cons (L2.pe_xvK T.xk_BadSame (by decide) (by decide) hr (L2.pk_cons (pv 0) L2.pk_nil)) pa_nil))) (pa_cons (pe_tup (pa_cons (L2.pe_xv T.x_BadLast (by decide) (by decide) hr (pa_cons (pv 0) pa_nil)) (pa_cons (L2.pe_xvK T.xk_BadLast (by decide) (by decide) hr (L2.pk_cons (pv 0) L2.pk_nil)) pa_nil))) pa_nil)))) pa_nil)))
 (pss_cons (ps_expr (pe_bm PySem.F.plainAttrs_list PySem.F.slot_list_extend PySem.F.type_list_extend mt_extend (pv 1) (pa_cons (pe_lst (pa_cons (pe_tup (pa_cons (L2.pe_xv T.x_BadShare (by decide) (by decide) hr (pa_cons (pv 0) pa_nil)) (pa_cons (L2.pe_xvK T.xk_BadShare (by decide) (by decide) hr (L2.pk_cons (pv 0) L2.pk_nil)) pa_nil))) (pa_cons (pe_tup (pa_cons (L2.pe_xv T.x_NotCoin (by decide) (by decide) hr (pa_cons (pv 0) pa_nil)) (pa_cons (L2.pe_xvK T.xk_NotCoin (by decide) (by decide) hr (L2.pk_cons (pv 0) L2.pk_nil)) pa_nil))) pa_nil))) pa_nil)))
 (pss_one (ps_ret (pe_op (DK.op_add (K := K)) (pv 1) (pe_lst (pa_cons (pe_tup (pa_cons (L2.pe_xv T.x_BadText (by decide) (by decide) hr (pa_cons (pv 0) pa_nil)) (pa_cons (L2.pe_xvK T.xk_BadText (by decide) (by decide) hr (L2.pk_cons (pv 0) L2.pk_nil)) pa_nil))) pa_nil)))))))))), fun R k0 ds b hp hl hE => ?_⟩), m, F.kp, bi⟩
 obtain ⟨o, ho⟩ := hp
 obtain ⟨x, rfl⟩ : ∃ x, ds = [x] := by
  match ds, hl with
  | [x], _ => exact ⟨x, rfl⟩
 clear ho
 dsimp only [startD, List.map, List.append, List.replicate]
 refine ws_seq (ws_asg (we_lstM ?_))
 refine wl_cons (we_tup (wl_cons (we_xv (wl_cons (we_var rfl (wl_nil ⟨rfl, ?_⟩))))))
 refine wl_cons (we_xvK (wl_cons (we_var rfl (wl_nil ⟨rfl, wl_nil (szB rfl ?_)⟩))))
 refine wl_cons (we_tup (wl_cons (we_xv (wl_cons (we_var rfl (wl_nil ⟨rfl, ?_⟩))))))
 refine wl_cons (we_xvK (wl_cons (we_var rfl (wl_nil ⟨rfl, wl_nil (szB rfl ?_)⟩))))
 refine wl_nil (szB rfl fun q nq => wg_nm (by rfl) ?_)
 dsimp only [List.set]
 refine ws_seq (ws_extend (j := 0) (o := q) (ds := [prX K A.BadTeller "teller" x, prX K A.BadLayer "index" x]) (fun _ _ _ z => (nomatch z)) (we_var rfl ⟨rfl, ⟨_, rfl⟩, we_lst ?_⟩))
 refine wl_cons (we_tup (wl_cons (we_xv (wl_cons (we_var rfl (wl_nil ⟨rfl, ?_⟩))))))
 refine wl_cons (we_xvK (wl_cons (we_var rfl (wl_nil ⟨rfl, wl_nil (szB rfl ?_)⟩))))
 refine wl_cons (we_tup (wl_cons (we_xv (wl_cons (we_var rfl (wl_nil ⟨rfl, ?_⟩))))))
 refine wl_cons (we_xvK (wl_cons (we_var rfl (wl_nil ⟨rfl, wl_nil (szB rfl ?_)⟩))))
 refine wl_nil (szB rfl ⟨_, rfl, rfl, le_size (show 2 + 2 ≤ 16777216 by decide), ?_⟩)
 dsimp only [List.set, List.append]
 refine ws_seq (ws_extend (j := 0) (o := q) (ds := [prX K A.BadTeller "teller" x, prX K A.BadLayer "index" x, prX K A.BadInputs "inputs" x, prX K A.NoLayer "layer" x]) (fun _ _ _ z => (nomatch z)) (we_var rfl ⟨rfl, ⟨_, rfl⟩, we_lst ?_⟩))
 refine wl_cons (we_tup (wl_cons (we_xv (wl_cons (we_var rfl (wl_nil ⟨rfl, ?_⟩))))))
 refine wl_cons (we_xvK (wl_cons (we_var rfl (wl_nil ⟨rfl, wl_nil (szB rfl ?_)⟩))))
 refine wl_cons (we_tup (wl_cons (we_xv (wl_cons (we_var rfl (wl_nil ⟨rfl, ?_⟩))))))
 refine wl_cons (we_xvK (wl_cons (we_var rfl (wl_nil ⟨rfl, wl_nil (szB rfl ?_)⟩))))
 refine wl_nil (szB rfl ⟨_, rfl, rfl, le_size (show 4 + 2 ≤ 16777216 by decide), ?_⟩)
 dsimp only [List.set, List.append]
 refine ws_seq (ws_extend (j := 0) (o := q) (ds := [prX K A.BadTeller "teller" x, prX K A.BadLayer "index" x, prX K A.BadInputs "inputs" x, prX K A.NoLayer "layer" x, prX K A.BadPlace "thing" x, prX K A.BadCells "thing" x]) (fun _ _ _ z => (nomatch z)) (we_var rfl ⟨rfl, ⟨_, rfl⟩, we_lst ?_⟩))
 refine wl_cons (we_tup (wl_cons (we_xv (wl_cons (we_var rfl (wl_nil ⟨rfl, ?_⟩))))))
 refine wl_cons (we_xvK (wl_cons (we_var rfl (wl_nil ⟨rfl, wl_nil (szB rfl ?_)⟩))))
 refine wl_cons (we_tup (wl_cons (we_xv (wl_cons (we_var rfl (wl_nil ⟨rfl, ?_⟩))))))
 refine wl_cons (we_xvK (wl_cons (we_var rfl (wl_nil ⟨rfl, wl_nil (szB rfl ?_)⟩))))
 refine wl_cons (we_tup (wl_cons (we_xv (wl_cons (we_var rfl (wl_nil ⟨rfl, ?_⟩))))))
 refine wl_cons (we_xvK (wl_cons (we_var rfl (wl_nil ⟨rfl, wl_nil (szB rfl ?_)⟩))))
 refine wl_nil (szB rfl ⟨_, rfl, rfl, le_size (show 6 + 3 ≤ 16777216 by decide), ?_⟩)
 dsimp only [List.set, List.append]
 refine ws_seq (ws_extend (j := 0) (o := q) (ds := [prX K A.BadTeller "teller" x, prX K A.BadLayer "index" x, prX K A.BadInputs "inputs" x, prX K A.NoLayer "layer" x, prX K A.BadPlace "thing" x, prX K A.BadCells "thing" x, prX K A.BadLook "index" x, prX K A.BadSame "index" x, prX K A.BadLast "last" x]) (fun _ _ _ z => (nomatch z)) (we_var rfl ⟨rfl, ⟨_, rfl⟩, we_lst ?_⟩))
 refine wl_cons (we_tup (wl_cons (we_xv (wl_cons (we_var rfl (wl_nil ⟨rfl, ?_⟩))))))
 refine wl_cons (we_xvK (wl_cons (we_var rfl (wl_nil ⟨rfl, wl_nil (szB rfl ?_)⟩))))
 refine wl_cons (we_tup (wl_cons (we_xv (wl_cons (we_var rfl (wl_nil ⟨rfl, ?_⟩))))))
 refine wl_cons (we_xvK (wl_cons (we_var rfl (wl_nil ⟨rfl, wl_nil (szB rfl ?_)⟩))))
 refine wl_nil (szB rfl ⟨_, rfl, rfl, le_size (show 9 + 2 ≤ 16777216 by decide), ?_⟩)
 dsimp only [List.set, List.append]
 refine ws_freeze (i := 1) (j := 0) rfl rfl rfl ?_
 dsimp only [List.set, List.eraseIdx]
 refine ws_ret (we_op (we_var rfl (we_lst ?_)))
 refine wl_cons (we_tup (wl_cons (we_xv (wl_cons (we_var rfl (wl_nil ⟨rfl, ?_⟩))))))
 refine wl_cons (we_xvK (wl_cons (we_var rfl (wl_nil ⟨rfl, wl_nil (szB rfl ?_)⟩))))
 exact wl_nil (szB rfl (rd_add_lst (le_size (show 11 + 1 ≤ 16777216 by decide)) ⟨rfl, rfl⟩))
end
end K19
set_option Elab.async false
set_option linter.all false
set_option maxRecDepth 100000
set_option maxHeartbeats 4000000
namespace K19
open PySem PySem.Spec PyProof.Rows L2 DL
def x_BadPrime : DY.XD := ⟨"BadPrime", ["prime"], "BadPrime.__init__", defArgs s_BadPrime___init__, defBody s_BadPrime___init__, defScope s_BadPrime___init__⟩
theorem xs_BadPrime : DY.XShape x_BadPrime := ⟨⟨⟨_, _, _, _, _, _, _, _, _, rfl, (.cons .nil), rfl⟩, rfl, rfl, rfl, by decide +kernel, rfl, rfl, rfl, fun f hf => by
 simp only [x_BadPrime, List.mem_cons, List.not_mem_nil, or_false] at hf
 rcases hf with rfl <;> exact ⟨rfl, by decide⟩, ⟨_, rfl, rfl⟩, by decide⟩,
 fun _ _ _ _ _ _ us hl => match us, hl with | [_, _], _ => rfl⟩
def x_BadNumber : DY.XD := ⟨"BadNumber", ["number"], "BadNumber.__init__", defArgs s_BadNumber___init__, defBody s_BadNumber___init__, defScope s_BadNumber___init__⟩
theorem xs_BadNumber : DY.XShape x_BadNumber := ⟨⟨⟨_, _, _, _, _, _, _, _, _, rfl, (.cons .nil), rfl⟩, rfl, rfl, rfl, by decide +kernel, rfl, rfl, rfl, fun f hf => by
 simp only [x_BadNumber, List.mem_cons, List.not_mem_nil, or_false] at hf
 rcases hf with rfl <;> exact ⟨rfl, by decide⟩, ⟨_, rfl, rfl⟩, by decide⟩,
 fun _ _ _ _ _ _ us hl => match us, hl with | [_, _], _ => rfl⟩
def x_NoInverse : DY.XD := ⟨"NoInverse", [], "NoInverse.__init__", defArgs s_NoInverse___init__, defBody s_NoInverse___init__, defScope s_NoInverse___init__⟩
theorem xs_NoInverse : DY.XShape x_NoInverse := ⟨⟨⟨_, _, _, _, _, _, _, _, _, rfl, .nil, rfl⟩, rfl, rfl, rfl, by decide +kernel, rfl, rfl, rfl, nofun, ⟨_, rfl, rfl⟩, by decide⟩,
 fun _ _ _ _ _ _ us hl => match us, hl with | [_], _ => rfl⟩
def x_BadTimes : DY.XD := ⟨"BadTimes", ["times"], "BadTimes.__init__", defArgs s_BadTimes___init__, defBody s_BadTimes___init__, defScope s_BadTimes___init__⟩
theorem xs_BadTimes : DY.XShape x_BadTimes := ⟨⟨⟨_, _, _, _, _, _, _, _, _, rfl, (.cons .nil), rfl⟩, rfl, rfl, rfl, by decide +kernel, rfl, rfl, rfl, fun f hf => by
 simp only [x_BadTimes, List.mem_cons, List.not_mem_nil, or_false] at hf
 rcases hf with rfl <;> exact ⟨rfl, by decide⟩, ⟨_, rfl, rfl⟩, by decide⟩,
 fun _ _ _ _ _ _ us hl => match us, hl with | [_, _], _ => rfl⟩
def x_BadNumbers : DY.XD := ⟨"BadNumbers", ["index"], "BadNumbers.__init__", defArgs s_BadNumbers___init__, defBody s_BadNumbers___init__, defScope s_BadNumbers___init__⟩
theorem xs_BadNumbers : DY.XShape x_BadNumbers := ⟨⟨⟨_, _, _, _, _, _, _, _, _, rfl, (.cons .nil), rfl⟩, rfl, rfl, rfl, by decide +kernel, rfl, rfl, rfl, fun f hf => by
 simp only [x_BadNumbers, List.mem_cons, List.not_mem_nil, or_false] at hf
 rcases hf with rfl <;> exact ⟨rfl, by decide⟩, ⟨_, rfl, rfl⟩, by decide⟩,
 fun _ _ _ _ _ _ us hl => match us, hl with | [_, _], _ => rfl⟩
def x_UnlikePrimes : DY.XD := ⟨"UnlikePrimes", [], "UnlikePrimes.__init__", defArgs s_UnlikePrimes___init__, defBody s_UnlikePrimes___init__, defScope s_UnlikePrimes___init__⟩
theorem xs_UnlikePrimes : DY.XShape x_UnlikePrimes := ⟨⟨⟨_, _, _, _, _, _, _, _, _, rfl, .nil, rfl⟩, rfl, rfl, rfl, by decide +kernel, rfl, rfl, rfl, nofun, ⟨_, rfl, rfl⟩, by decide⟩,
 fun _ _ _ _ _ _ us hl => match us, hl with | [_], _ => rfl⟩
def x_BadPoints : DY.XD := ⟨"BadPoints", ["index"], "BadPoints.__init__", defArgs s_BadPoints___init__, defBody s_BadPoints___init__, defScope s_BadPoints___init__⟩
theorem xs_BadPoints : DY.XShape x_BadPoints := ⟨⟨⟨_, _, _, _, _, _, _, _, _, rfl, (.cons .nil), rfl⟩, rfl, rfl, rfl, by decide +kernel, rfl, rfl, rfl, fun f hf => by
 simp only [x_BadPoints, List.mem_cons, List.not_mem_nil, or_false] at hf
 rcases hf with rfl <;> exact ⟨rfl, by decide⟩, ⟨_, rfl, rfl⟩, by decide⟩,
 fun _ _ _ _ _ _ us hl => match us, hl with | [_, _], _ => rfl⟩
def x_BadTerm : DY.XD := ⟨"BadTerm", ["index"], "BadTerm.__init__", defArgs s_BadTerm___init__, defBody s_BadTerm___init__, defScope s_BadTerm___init__⟩
theorem xs_BadTerm : DY.XShape x_BadTerm := ⟨⟨⟨_, _, _, _, _, _, _, _, _, rfl, (.cons .nil), rfl⟩, rfl, rfl, rfl, by decide +kernel, rfl, rfl, rfl, fun f hf => by
 simp only [x_BadTerm, List.mem_cons, List.not_mem_nil, or_false] at hf
 rcases hf with rfl <;> exact ⟨rfl, by decide⟩, ⟨_, rfl, rfl⟩, by decide⟩,
 fun _ _ _ _ _ _ us hl => match us, hl with | [_, _], _ => rfl⟩
def x_BadLetter : DY.XD := ⟨"BadLetter", ["letter"], "BadLetter.__init__", defArgs s_BadLetter___init__, defBody s_BadLetter___init__, defScope s_BadLetter___init__⟩
theorem xs_BadLetter : DY.XShape x_BadLetter := ⟨⟨⟨_, _, _, _, _, _, _, _, _, rfl, (.cons .nil), rfl⟩, rfl, rfl, rfl, by decide +kernel, rfl, rfl, rfl, fun f hf => by
 simp only [x_BadLetter, List.mem_cons, List.not_mem_nil, or_false] at hf
 rcases hf with rfl <;> exact ⟨rfl, by decide⟩, ⟨_, rfl, rfl⟩, by decide⟩,
 fun _ _ _ _ _ _ us hl => match us, hl with | [_, _], _ => rfl⟩
def x_BadValues : DY.XD := ⟨"BadValues", ["letter"], "BadValues.__init__", defArgs s_BadValues___init__, defBody s_BadValues___init__, defScope s_BadValues___init__⟩
theorem xs_BadValues : DY.XShape x_BadValues := ⟨⟨⟨_, _, _, _, _, _, _, _, _, rfl, (.cons .nil), rfl⟩, rfl, rfl, rfl, by decide +kernel, rfl, rfl, rfl, fun f hf => by
 simp only [x_BadValues, List.mem_cons, List.not_mem_nil, or_false] at hf
 rcases hf with rfl <;> exact ⟨rfl, by decide⟩, ⟨_, rfl, rfl⟩, by decide⟩,
 fun _ _ _ _ _ _ us hl => match us, hl with | [_, _], _ => rfl⟩
def x_BadThing : DY.XD := ⟨"BadThing", ["thing"], "BadThing.__init__", defArgs s_BadThing___init__, defBody s_BadThing___init__, defScope s_BadThing___init__⟩
theorem xs_BadThing : DY.XShape x_BadThing := ⟨⟨⟨_, _, _, _, _, _, _, _, _, rfl, (.cons .nil), rfl⟩, rfl, rfl, rfl, by decide +kernel, rfl, rfl, rfl, fun f hf => by
 simp only [x_BadThing, List.mem_cons, List.not_mem_nil, or_false] at hf
 rcases hf with rfl <;> exact ⟨rfl, by decide⟩, ⟨_, rfl, rfl⟩, by decide⟩,
 fun _ _ _ _ _ _ us hl => match us, hl with | [_, _], _ => rfl⟩
def x_BadLetters : DY.XD := ⟨"BadLetters", ["index"], "BadLetters.__init__", defArgs s_BadLetters___init__, defBody s_BadLetters___init__, defScope s_BadLetters___init__⟩
theorem xs_BadLetters : DY.XShape x_BadLetters := ⟨⟨⟨_, _, _, _, _, _, _, _, _, rfl, (.cons .nil), rfl⟩, rfl, rfl, rfl, by decide +kernel, rfl, rfl, rfl, fun f hf => by
 simp only [x_BadLetters, List.mem_cons, List.not_mem_nil, or_false] at hf
 rcases hf with rfl <;> exact ⟨rfl, by decide⟩, ⟨_, rfl, rfl⟩, by decide⟩,
 fun _ _ _ _ _ _ us hl => match us, hl with | [_, _], _ => rfl⟩
def x_BadCoin : DY.XD := ⟨"BadCoin", ["index"], "BadCoin.__init__", defArgs s_BadCoin___init__, defBody s_BadCoin___init__, defScope s_BadCoin___init__⟩
theorem xs_BadCoin : DY.XShape x_BadCoin := ⟨⟨⟨_, _, _, _, _, _, _, _, _, rfl, (.cons .nil), rfl⟩, rfl, rfl, rfl, by decide +kernel, rfl, rfl, rfl, fun f hf => by
 simp only [x_BadCoin, List.mem_cons, List.not_mem_nil, or_false] at hf
 rcases hf with rfl <;> exact ⟨rfl, by decide⟩, ⟨_, rfl, rfl⟩, by decide⟩,
 fun _ _ _ _ _ _ us hl => match us, hl with | [_, _], _ => rfl⟩
def x_BadDegree : DY.XD := ⟨"BadDegree", ["number"], "BadDegree.__init__", defArgs s_BadDegree___init__, defBody s_BadDegree___init__, defScope s_BadDegree___init__⟩
theorem xs_BadDegree : DY.XShape x_BadDegree := ⟨⟨⟨_, _, _, _, _, _, _, _, _, rfl, (.cons .nil), rfl⟩, rfl, rfl, rfl, by decide +kernel, rfl, rfl, rfl, fun f hf => by
 simp only [x_BadDegree, List.mem_cons, List.not_mem_nil, or_false] at hf
 rcases hf with rfl <;> exact ⟨rfl, by decide⟩, ⟨_, rfl, rfl⟩, by decide⟩,
 fun _ _ _ _ _ _ us hl => match us, hl with | [_, _], _ => rfl⟩
def x_NoPoly : DY.XD := ⟨"NoPoly", [], "NoPoly.__init__", defArgs s_NoPoly___init__, defBody s_NoPoly___init__, defScope s_NoPoly___init__⟩
theorem xs_NoPoly : DY.XShape x_NoPoly := ⟨⟨⟨_, _, _, _, _, _, _, _, _, rfl, .nil, rfl⟩, rfl, rfl, rfl, by decide +kernel, rfl, rfl, rfl, nofun, ⟨_, rfl, rfl⟩, by decide⟩,
 fun _ _ _ _ _ _ us hl => match us, hl with | [_], _ => rfl⟩
def x_BadBeat : DY.XD := ⟨"BadBeat", ["index"], "BadBeat.__init__", defArgs s_BadBeat___init__, defBody s_BadBeat___init__, defScope s_BadBeat___init__⟩
theorem xs_BadBeat : DY.XShape x_BadBeat := ⟨⟨⟨_, _, _, _, _, _, _, _, _, rfl, (.cons .nil), rfl⟩, rfl, rfl, rfl, by decide +kernel, rfl, rfl, rfl, fun f hf => by
 simp only [x_BadBeat, List.mem_cons, List.not_mem_nil, or_false] at hf
 rcases hf with rfl <;> exact ⟨rfl, by decide⟩, ⟨_, rfl, rfl⟩, by decide⟩,
 fun _ _ _ _ _ _ us hl => match us, hl with | [_, _], _ => rfl⟩
def x_NoBeat : DY.XD := ⟨"NoBeat", ["index"], "NoBeat.__init__", defArgs s_NoBeat___init__, defBody s_NoBeat___init__, defScope s_NoBeat___init__⟩
theorem xs_NoBeat : DY.XShape x_NoBeat := ⟨⟨⟨_, _, _, _, _, _, _, _, _, rfl, (.cons .nil), rfl⟩, rfl, rfl, rfl, by decide +kernel, rfl, rfl, rfl, fun f hf => by
 simp only [x_NoBeat, List.mem_cons, List.not_mem_nil, or_false] at hf
 rcases hf with rfl <;> exact ⟨rfl, by decide⟩, ⟨_, rfl, rfl⟩, by decide⟩,
 fun _ _ _ _ _ _ us hl => match us, hl with | [_, _], _ => rfl⟩
def x_BadThrown : DY.XD := ⟨"BadThrown", ["index"], "BadThrown.__init__", defArgs s_BadThrown___init__, defBody s_BadThrown___init__, defScope s_BadThrown___init__⟩
theorem xs_BadThrown : DY.XShape x_BadThrown := ⟨⟨⟨_, _, _, _, _, _, _, _, _, rfl, (.cons .nil), rfl⟩, rfl, rfl, rfl, by decide +kernel, rfl, rfl, rfl, fun f hf => by
 simp only [x_BadThrown, List.mem_cons, List.not_mem_nil, or_false] at hf
 rcases hf with rfl <;> exact ⟨rfl, by decide⟩, ⟨_, rfl, rfl⟩, by decide⟩,
 fun _ _ _ _ _ _ us hl => match us, hl with | [_, _], _ => rfl⟩
def x_BadMessages : DY.XD := ⟨"BadMessages", ["index"], "BadMessages.__init__", defArgs s_BadMessages___init__, defBody s_BadMessages___init__, defScope s_BadMessages___init__⟩
theorem xs_BadMessages : DY.XShape x_BadMessages := ⟨⟨⟨_, _, _, _, _, _, _, _, _, rfl, (.cons .nil), rfl⟩, rfl, rfl, rfl, by decide +kernel, rfl, rfl, rfl, fun f hf => by
 simp only [x_BadMessages, List.mem_cons, List.not_mem_nil, or_false] at hf
 rcases hf with rfl <;> exact ⟨rfl, by decide⟩, ⟨_, rfl, rfl⟩, by decide⟩,
 fun _ _ _ _ _ _ us hl => match us, hl with | [_, _], _ => rfl⟩
def x_NoSum : DY.XD := ⟨"NoSum", ["index"], "NoSum.__init__", defArgs s_NoSum___init__, defBody s_NoSum___init__, defScope s_NoSum___init__⟩
theorem xs_NoSum : DY.XShape x_NoSum := ⟨⟨⟨_, _, _, _, _, _, _, _, _, rfl, (.cons .nil), rfl⟩, rfl, rfl, rfl, by decide +kernel, rfl, rfl, rfl, fun f hf => by
 simp only [x_NoSum, List.mem_cons, List.not_mem_nil, or_false] at hf
 rcases hf with rfl <;> exact ⟨rfl, by decide⟩, ⟨_, rfl, rfl⟩, by decide⟩,
 fun _ _ _ _ _ _ us hl => match us, hl with | [_, _], _ => rfl⟩
def x_Narrow : DY.XD := ⟨"Narrow", ["index"], "Narrow.__init__", defArgs s_Narrow___init__, defBody s_Narrow___init__, defScope s_Narrow___init__⟩
theorem xs_Narrow : DY.XShape x_Narrow := ⟨⟨⟨_, _, _, _, _, _, _, _, _, rfl, (.cons .nil), rfl⟩, rfl, rfl, rfl, by decide +kernel, rfl, rfl, rfl, fun f hf => by
 simp only [x_Narrow, List.mem_cons, List.not_mem_nil, or_false] at hf
 rcases hf with rfl <;> exact ⟨rfl, by decide⟩, ⟨_, rfl, rfl⟩, by decide⟩,
 fun _ _ _ _ _ _ us hl => match us, hl with | [_, _], _ => rfl⟩
def x_BadTeller : DY.XD := ⟨"BadTeller", ["teller"], "BadTeller.__init__", defArgs s_BadTeller___init__, defBody s_BadTeller___init__, defScope s_BadTeller___init__⟩
theorem xs_BadTeller : DY.XShape x_BadTeller := ⟨⟨⟨_, _, _, _, _, _, _, _, _, rfl, (.cons .nil), rfl⟩, rfl, rfl, rfl, by decide +kernel, rfl, rfl, rfl, fun f hf => by
 simp only [x_BadTeller, List.mem_cons, List.not_mem_nil, or_false] at hf
 rcases hf with rfl <;> exact ⟨rfl, by decide⟩, ⟨_, rfl, rfl⟩, by decide⟩,
 fun _ _ _ _ _ _ us hl => match us, hl with | [_, _], _ => rfl⟩
def x_BadLayer : DY.XD := ⟨"BadLayer", ["index"], "BadLayer.__init__", defArgs s_BadLayer___init__, defBody s_BadLayer___init__, defScope s_BadLayer___init__⟩
theorem xs_BadLayer : DY.XShape x_BadLayer := ⟨⟨⟨_, _, _, _, _, _, _, _, _, rfl, (.cons .nil), rfl⟩, rfl, rfl, rfl, by decide +kernel, rfl, rfl, rfl, fun f hf => by
 simp only [x_BadLayer, List.mem_cons, List.not_mem_nil, or_false] at hf
 rcases hf with rfl <;> exact ⟨rfl, by decide⟩, ⟨_, rfl, rfl⟩, by decide⟩,
 fun _ _ _ _ _ _ us hl => match us, hl with | [_, _], _ => rfl⟩
def x_BadInputs : DY.XD := ⟨"BadInputs", ["inputs"], "BadInputs.__init__", defArgs s_BadInputs___init__, defBody s_BadInputs___init__, defScope s_BadInputs___init__⟩
theorem xs_BadInputs : DY.XShape x_BadInputs := ⟨⟨⟨_, _, _, _, _, _, _, _, _, rfl, (.cons .nil), rfl⟩, rfl, rfl, rfl, by decide +kernel, rfl, rfl, rfl, fun f hf => by
 simp only [x_BadInputs, List.mem_cons, List.not_mem_nil, or_false] at hf
 rcases hf with rfl <;> exact ⟨rfl, by decide⟩, ⟨_, rfl, rfl⟩, by decide⟩,
 fun _ _ _ _ _ _ us hl => match us, hl with | [_, _], _ => rfl⟩
def x_BadGate : DY.XD := ⟨"BadGate", ["layer", "index"], "BadGate.__init__", defArgs s_BadGate___init__, defBody s_BadGate___init__, defScope s_BadGate___init__⟩
theorem xs_BadGate : DY.XShape x_BadGate := ⟨⟨⟨_, _, _, _, _, _, _, _, _, rfl, (.cons (.cons .nil)), rfl⟩, rfl, rfl, rfl, by decide +kernel, rfl, rfl, rfl, fun f hf => by
 simp only [x_BadGate, List.mem_cons, List.not_mem_nil, or_false] at hf
 rcases hf with rfl | rfl <;> exact ⟨rfl, by decide⟩, ⟨_, rfl, rfl⟩, by decide⟩,
 fun _ _ _ _ _ _ us hl => match us, hl with | [_, _, _], _ => rfl⟩
def x_NoLayer : DY.XD := ⟨"NoLayer", ["layer"], "NoLayer.__init__", defArgs s_NoLayer___init__, defBody s_NoLayer___init__, defScope s_NoLayer___init__⟩
theorem xs_NoLayer : DY.XShape x_NoLayer := ⟨⟨⟨_, _, _, _, _, _, _, _, _, rfl, (.cons .nil), rfl⟩, rfl, rfl, rfl, by decide +kernel, rfl, rfl, rfl, fun f hf => by
 simp only [x_NoLayer, List.mem_cons, List.not_mem_nil, or_false] at hf
 rcases hf with rfl <;> exact ⟨rfl, by decide⟩, ⟨_, rfl, rfl⟩, by decide⟩,
 fun _ _ _ _ _ _ us hl => match us, hl with | [_, _], _ => rfl⟩
def x_BadPlace : DY.XD := ⟨"BadPlace", ["thing"], "BadPlace.__init__", defArgs s_BadPlace___init__, defBody s_BadPlace___init__, defScope s_BadPlace___init__⟩
theorem xs_BadPlace : DY.XShape x_BadPlace := ⟨⟨⟨_, _, _, _, _, _, _, _, _, rfl, (.cons .nil), rfl⟩, rfl, rfl, rfl, by decide +kernel, rfl, rfl, rfl, fun f hf => by
 simp only [x_BadPlace, List.mem_cons, List.not_mem_nil, or_false] at hf
 rcases hf with rfl <;> exact ⟨rfl, by decide⟩, ⟨_, rfl, rfl⟩, by decide⟩,
 fun _ _ _ _ _ _ us hl => match us, hl with | [_, _], _ => rfl⟩
def x_BadCells : DY.XD := ⟨"BadCells", ["thing"], "BadCells.__init__", defArgs s_BadCells___init__, defBody s_BadCells___init__, defScope s_BadCells___init__⟩
theorem xs_BadCells : DY.XShape x_BadCells := ⟨⟨⟨_, _, _, _, _, _, _, _, _, rfl, (.cons .nil), rfl⟩, rfl, rfl, rfl, by decide +kernel, rfl, rfl, rfl, fun f hf => by
 simp only [x_BadCells, List.mem_cons, List.not_mem_nil, or_false] at hf
 rcases hf with rfl <;> exact ⟨rfl, by decide⟩, ⟨_, rfl, rfl⟩, by decide⟩,
 fun _ _ _ _ _ _ us hl => match us, hl with | [_, _], _ => rfl⟩
def x_BadLook : DY.XD := ⟨"BadLook", ["index"], "BadLook.__init__", defArgs s_BadLook___init__, defBody s_BadLook___init__, defScope s_BadLook___init__⟩
theorem xs_BadLook : DY.XShape x_BadLook := ⟨⟨⟨_, _, _, _, _, _, _, _, _, rfl, (.cons .nil), rfl⟩, rfl, rfl, rfl, by decide +kernel, rfl, rfl, rfl, fun f hf => by
 simp only [x_BadLook, List.mem_cons, List.not_mem_nil, or_false] at hf
 rcases hf with rfl <;> exact ⟨rfl, by decide⟩, ⟨_, rfl, rfl⟩, by decide⟩,
 fun _ _ _ _ _ _ us hl => match us, hl with | [_, _], _ => rfl⟩
def x_BadSame : DY.XD := ⟨"BadSame", ["index"], "BadSame.__init__", defArgs s_BadSame___init__, defBody s_BadSame___init__, defScope s_BadSame___init__⟩
theorem xs_BadSame : DY.XShape x_BadSame := ⟨⟨⟨_, _, _, _, _, _, _, _, _, rfl, (.cons .nil), rfl⟩, rfl, rfl, rfl, by decide +kernel, rfl, rfl, rfl, fun f hf => by
 simp only [x_BadSame, List.mem_cons, List.not_mem_nil, or_false] at hf
 rcases hf with rfl <;> exact ⟨rfl, by decide⟩, ⟨_, rfl, rfl⟩, by decide⟩,
 fun _ _ _ _ _ _ us hl => match us, hl with | [_, _], _ => rfl⟩
def x_BadLast : DY.XD := ⟨"BadLast", ["last"], "BadLast.__init__", defArgs s_BadLast___init__, defBody s_BadLast___init__, defScope s_BadLast___init__⟩
theorem xs_BadLast : DY.XShape x_BadLast := ⟨⟨⟨_, _, _, _, _, _, _, _, _, rfl, (.cons .nil), rfl⟩, rfl, rfl, rfl, by decide +kernel, rfl, rfl, rfl, fun f hf => by
 simp only [x_BadLast, List.mem_cons, List.not_mem_nil, or_false] at hf
 rcases hf with rfl <;> exact ⟨rfl, by decide⟩, ⟨_, rfl, rfl⟩, by decide⟩,
 fun _ _ _ _ _ _ us hl => match us, hl with | [_, _], _ => rfl⟩
def x_BadShare : DY.XD := ⟨"BadShare", ["share"], "BadShare.__init__", defArgs s_BadShare___init__, defBody s_BadShare___init__, defScope s_BadShare___init__⟩
theorem xs_BadShare : DY.XShape x_BadShare := ⟨⟨⟨_, _, _, _, _, _, _, _, _, rfl, (.cons .nil), rfl⟩, rfl, rfl, rfl, by decide +kernel, rfl, rfl, rfl, fun f hf => by
 simp only [x_BadShare, List.mem_cons, List.not_mem_nil, or_false] at hf
 rcases hf with rfl <;> exact ⟨rfl, by decide⟩, ⟨_, rfl, rfl⟩, by decide⟩,
 fun _ _ _ _ _ _ us hl => match us, hl with | [_, _], _ => rfl⟩
def x_NotCoin : DY.XD := ⟨"NotCoin", ["number"], "NotCoin.__init__", defArgs s_NotCoin___init__, defBody s_NotCoin___init__, defScope s_NotCoin___init__⟩
theorem xs_NotCoin : DY.XShape x_NotCoin := ⟨⟨⟨_, _, _, _, _, _, _, _, _, rfl, (.cons .nil), rfl⟩, rfl, rfl, rfl, by decide +kernel, rfl, rfl, rfl, fun f hf => by
 simp only [x_NotCoin, List.mem_cons, List.not_mem_nil, or_false] at hf
 rcases hf with rfl <;> exact ⟨rfl, by decide⟩, ⟨_, rfl, rfl⟩, by decide⟩,
 fun _ _ _ _ _ _ us hl => match us, hl with | [_, _], _ => rfl⟩
def x_NotNow : DY.XD := ⟨"NotNow", [], "NotNow.__init__", defArgs s_NotNow___init__, defBody s_NotNow___init__, defScope s_NotNow___init__⟩
theorem xs_NotNow : DY.XShape x_NotNow := ⟨⟨⟨_, _, _, _, _, _, _, _, _, rfl, .nil, rfl⟩, rfl, rfl, rfl, by decide +kernel, rfl, rfl, rfl, nofun, ⟨_, rfl, rfl⟩, by decide⟩,
 fun _ _ _ _ _ _ us hl => match us, hl with | [_], _ => rfl⟩
def x_BadText : DY.XD := ⟨"BadText", ["line"], "BadText.__init__", defArgs s_BadText___init__, defBody s_BadText___init__, defScope s_BadText___init__⟩
theorem xs_BadText : DY.XShape x_BadText := ⟨⟨⟨_, _, _, _, _, _, _, _, _, rfl, (.cons .nil), rfl⟩, rfl, rfl, rfl, by decide +kernel, rfl, rfl, rfl, fun f hf => by
 simp only [x_BadText, List.mem_cons, List.not_mem_nil, or_false] at hf
 rcases hf with rfl <;> exact ⟨rfl, by decide⟩, ⟨_, rfl, rfl⟩, by decide⟩,
 fun _ _ _ _ _ _ us hl => match us, hl with | [_, _], _ => rfl⟩
theorem xk_BadPrime : DZ.KShape x_BadPrime ["prime"] := ⟨rfl, fun _ _ _ _ _ _ _ ws hl => match ws, hl with | [_], _ => rfl⟩
theorem xk_BadNumber : DZ.KShape x_BadNumber ["number"] := ⟨rfl, fun _ _ _ _ _ _ _ ws hl => match ws, hl with | [_], _ => rfl⟩
theorem xk_BadTimes : DZ.KShape x_BadTimes ["times"] := ⟨rfl, fun _ _ _ _ _ _ _ ws hl => match ws, hl with | [_], _ => rfl⟩
theorem xk_BadNumbers : DZ.KShape x_BadNumbers ["index"] := ⟨rfl, fun _ _ _ _ _ _ _ ws hl => match ws, hl with | [_], _ => rfl⟩
theorem xk_BadPoints : DZ.KShape x_BadPoints ["index"] := ⟨rfl, fun _ _ _ _ _ _ _ ws hl => match ws, hl with | [_], _ => rfl⟩
theorem xk_BadTerm : DZ.KShape x_BadTerm ["index"] := ⟨rfl, fun _ _ _ _ _ _ _ ws hl => match ws, hl with | [_], _ => rfl⟩
theorem xk_BadLetter : DZ.KShape x_BadLetter ["letter"] := ⟨rfl, fun _ _ _ _ _ _ _ ws hl => match ws, hl with | [_], _ => rfl⟩
theorem xk_BadValues : DZ.KShape x_BadValues ["letter"] := ⟨rfl, fun _ _ _ _ _ _ _ ws hl => match ws, hl with | [_], _ => rfl⟩
theorem xk_BadThing : DZ.KShape x_BadThing ["thing"] := ⟨rfl, fun _ _ _ _ _ _ _ ws hl => match ws, hl with | [_], _ => rfl⟩
theorem xk_BadLetters : DZ.KShape x_BadLetters ["index"] := ⟨rfl, fun _ _ _ _ _ _ _ ws hl => match ws, hl with | [_], _ => rfl⟩
theorem xk_BadCoin : DZ.KShape x_BadCoin ["index"] := ⟨rfl, fun _ _ _ _ _ _ _ ws hl => match ws, hl with | [_], _ => rfl⟩
theorem xk_BadDegree : DZ.KShape x_BadDegree ["number"] := ⟨rfl, fun _ _ _ _ _ _ _ ws hl => match ws, hl with | [_], _ => rfl⟩
theorem xk_BadBeat : DZ.KShape x_BadBeat ["index"] := ⟨rfl, fun _ _ _ _ _ _ _ ws hl => match ws, hl with | [_], _ => rfl⟩
theorem xk_NoBeat : DZ.KShape x_NoBeat ["index"] := ⟨rfl, fun _ _ _ _ _ _ _ ws hl => match ws, hl with | [_], _ => rfl⟩
theorem xk_BadThrown : DZ.KShape x_BadThrown ["index"] := ⟨rfl, fun _ _ _ _ _ _ _ ws hl => match ws, hl with | [_], _ => rfl⟩
theorem xk_BadMessages : DZ.KShape x_BadMessages ["index"] := ⟨rfl, fun _ _ _ _ _ _ _ ws hl => match ws, hl with | [_], _ => rfl⟩
theorem xk_NoSum : DZ.KShape x_NoSum ["index"] := ⟨rfl, fun _ _ _ _ _ _ _ ws hl => match ws, hl with | [_], _ => rfl⟩
theorem xk_Narrow : DZ.KShape x_Narrow ["index"] := ⟨rfl, fun _ _ _ _ _ _ _ ws hl => match ws, hl with | [_], _ => rfl⟩
theorem xk_BadTeller : DZ.KShape x_BadTeller ["teller"] := ⟨rfl, fun _ _ _ _ _ _ _ ws hl => match ws, hl with | [_], _ => rfl⟩
theorem xk_BadLayer : DZ.KShape x_BadLayer ["index"] := ⟨rfl, fun _ _ _ _ _ _ _ ws hl => match ws, hl with | [_], _ => rfl⟩
theorem xk_BadInputs : DZ.KShape x_BadInputs ["inputs"] := ⟨rfl, fun _ _ _ _ _ _ _ ws hl => match ws, hl with | [_], _ => rfl⟩
theorem xk_NoLayer : DZ.KShape x_NoLayer ["layer"] := ⟨rfl, fun _ _ _ _ _ _ _ ws hl => match ws, hl with | [_], _ => rfl⟩
theorem xk_BadPlace : DZ.KShape x_BadPlace ["thing"] := ⟨rfl, fun _ _ _ _ _ _ _ ws hl => match ws, hl with | [_], _ => rfl⟩
theorem xk_BadCells : DZ.KShape x_BadCells ["thing"] := ⟨rfl, fun _ _ _ _ _ _ _ ws hl => match ws, hl with | [_], _ => rfl⟩
theorem xk_BadLook : DZ.KShape x_BadLook ["index"] := ⟨rfl, fun _ _ _ _ _ _ _ ws hl => match ws, hl with | [_], _ => rfl⟩
theorem xk_BadSame : DZ.KShape x_BadSame ["index"] := ⟨rfl, fun _ _ _ _ _ _ _ ws hl => match ws, hl with | [_], _ => rfl⟩
theorem xk_BadLast : DZ.KShape x_BadLast ["last"] := ⟨rfl, fun _ _ _ _ _ _ _ ws hl => match ws, hl with | [_], _ => rfl⟩
theorem xk_BadShare : DZ.KShape x_BadShare ["share"] := ⟨rfl, fun _ _ _ _ _ _ _ ws hl => match ws, hl with | [_], _ => rfl⟩
theorem xk_NotCoin : DZ.KShape x_NotCoin ["number"] := ⟨rfl, fun _ _ _ _ _ _ _ ws hl => match ws, hl with | [_], _ => rfl⟩
theorem xk_BadText : DZ.KShape x_BadText ["line"] := ⟨rfl, fun _ _ _ _ _ _ _ ws hl => match ws, hl with | [_], _ => rfl⟩
theorem xk_BadGate : DZ.KShape x_BadGate ["index", "layer"] := ⟨rfl, fun _ _ _ _ _ _ _ ws hl => match ws, hl with | [_, _], _ => rfl⟩
def xds : List DY.XD := [x_BadPrime, x_BadNumber, x_NoInverse, x_BadTimes, x_BadNumbers, x_UnlikePrimes, x_BadPoints, x_BadTerm, x_BadLetter, x_BadValues, x_BadThing, x_BadLetters, x_BadCoin, x_BadDegree, x_NoPoly, x_BadBeat, x_NoBeat, x_BadThrown, x_BadMessages, x_NoSum, x_Narrow, x_BadTeller, x_BadLayer, x_BadInputs, x_BadGate, x_NoLayer, x_BadPlace, x_BadCells, x_BadLook, x_BadSame, x_BadLast, x_BadShare, x_NotCoin, x_NotNow, x_BadText]
def dd__law_start : He.DefD := ⟨("_law_start", none), "_law_start", "_law_start", defArgs s__law_start, defBody s__law_start, defScope s__law_start, [], []⟩
def dd__law_draw : He.DefD := ⟨("_law_draw", none), "_law_draw", "_law_draw", defArgs s__law_draw, defBody s__law_draw, defScope s__law_draw, [], []⟩
def dd__law_pick : He.DefD := ⟨("_law_pick", none), "_law_pick", "_law_pick", defArgs s__law_pick, defBody s__law_pick, defScope s__law_pick, [], []⟩
def dd__law_first : He.DefD := ⟨("_law_first", none), "_law_first", "_law_first", defArgs s__law_first, defBody s__law_first, defScope s__law_first, [], []⟩
def dd__law_second : He.DefD := ⟨("_law_second", none), "_law_second", "_law_second", defArgs s__law_second, defBody s__law_second, defScope s__law_second, [], []⟩
def dd__law_held : He.DefD := ⟨("_law_held", none), "_law_held", "_law_held", defArgs s__law_held, defBody s__law_held, defScope s__law_held, [], []⟩
def dd__law_classes : He.DefD := ⟨("_law_classes", none), "_law_classes", "_law_classes", defArgs s__law_classes, defBody s__law_classes, defScope s__law_classes, [], []⟩
def dd_law : He.DefD := ⟨("law", none), "law", "law", defArgs s_law, defBody s_law, defScope s_law, [], []⟩
def fns0 : List He.DefD := [dd__law_start, dd__law_draw, dd__law_pick, dd__law_first, dd__law_second, dd__law_held, dd__law_classes, dd_law]
def fns : List He.DefD := fns0
def exs (K : PySem.W.Frag) : Bool := DZ.xtB K [("BadPrime" : Str), ("BadNumber" : Str), ("NoInverse" : Str), ("BadTimes" : Str), ("BadNumbers" : Str), ("UnlikePrimes" : Str), ("BadPoints" : Str), ("BadTerm" : Str), ("BadLetter" : Str), ("BadValues" : Str), ("BadThing" : Str), ("BadLetters" : Str), ("BadCoin" : Str), ("BadDegree" : Str), ("NoPoly" : Str), ("BadBeat" : Str), ("NoBeat" : Str), ("BadThrown" : Str), ("BadMessages" : Str), ("NoSum" : Str), ("Narrow" : Str), ("BadTeller" : Str), ("BadLayer" : Str), ("BadInputs" : Str), ("BadGate" : Str), ("NoLayer" : Str), ("BadPlace" : Str), ("BadCells" : Str), ("BadLook" : Str), ("BadSame" : Str), ("BadLast" : Str), ("BadShare" : Str), ("NotCoin" : Str), ("NotNow" : Str), ("BadText" : Str)] "TalkError"
def fas0 : List He.Fa := [.glo "TalkError", .glo "BadPrime", .glo "BadNumber", .glo "NoInverse", .glo "BadTimes", .glo "BadNumbers", .glo "UnlikePrimes", .glo "BadPoints", .glo "BadTerm", .glo "BadLetter", .glo "BadValues", .glo "BadThing", .glo "BadLetters", .glo "BadCoin", .glo "BadDegree", .glo "NoPoly", .glo "BadBeat", .glo "NoBeat", .glo "BadThrown", .glo "BadMessages", .glo "NoSum", .glo "Narrow", .glo "BadTeller", .glo "BadLayer", .glo "BadInputs", .glo "BadGate", .glo "NoLayer", .glo "BadPlace", .glo "BadCells", .glo "BadLook"]
def fas1 : List He.Fa := [.glo "BadSame", .glo "BadLast", .glo "BadShare", .glo "NotCoin", .glo "NotNow", .glo "BadText", .glo "_law_start", .glo "_law_draw", .glo "_law_pick", .glo "_law_first", .glo "_law_second", .glo "_law_held", .glo "_law_classes", .glo "law", .free "ValueError", .free "any", .free "bool", .free "enumerate", .free "int", .free "isinstance", .free "len", .free "list", .free "range"]
def fas : List He.Fa := fas0 ++ (fas1)
def names0 : List PySem.Str := ["TalkError", "BadPrime", "BadNumber", "NoInverse", "BadTimes", "BadNumbers", "UnlikePrimes", "BadPoints", "BadTerm", "BadLetter", "BadValues", "BadThing", "BadLetters", "BadCoin", "BadDegree", "NoPoly", "BadBeat", "NoBeat", "BadThrown", "BadMessages", "NoSum", "Narrow", "BadTeller", "BadLayer", "BadInputs", "BadGate", "NoLayer", "BadPlace", "BadCells", "BadLook"]
def names1 : List PySem.Str := ["BadSame", "BadLast", "BadShare", "NotCoin", "NotNow", "BadText", "_law_start", "_law_draw", "_law_pick", "_law_first", "_law_second", "_law_held", "_law_classes"]
def names : List PySem.Str := names0 ++ (names1)
abbrev R : PySem.W.OpenRow := PySem.W.OpenLaw.row PySem.Challenge.rw_weaktalks_k19_errors_made
abbrev tfs : List He.Defn := [("law", none)]
abbrev fileS : Str := R.prog.main.file
abbrev hk : PySem.W.Hook := DY.hookZ fileS fas fns [] xds exs tfs
def ob (s : PySem.W.SharedT) : DY.AlY := DY.obsZ fileS fas fns [] xds exs tfs (HandSHeadRun.getT s)
theorem ob_eq (s : PySem.W.SharedT) : ob s = hk.obs s.abs := DY.obsZ_eq (HandSHeadRun.getT_eq s)
abbrev iLaw : Nat := 45
set_option maxHeartbeats 0 in
theorem runA (w : World) : DY.PAB R (PySem.W.view R.prog [iLaw]) names w := by
 intro os
 kernel_rfl
set_option maxHeartbeats 0 in
theorem runF (w : World) : DY.PFXM R fas fileS xds exs tfs w := by
 intro os
 kernel_rfl
set_option maxHeartbeats 0 in
theorem runD (w : World) : DY.PD R fns w := by
 intro os
 kernel_rfl
theorem run (w : World) : HandSHeadRun.RunEq R (PySem.W.view R.prog [iLaw]) hk ob 14000 names w := DY.run_of3 (runA w) (runF w) (runD w)
end K19
set_option Elab.async false
set_option linter.all false
set_option maxRecDepth 100000
set_option maxHeartbeats 4000000
namespace K19
open PySem PySem.Spec PyProof.Rows L2 DL
end K19
section
open PySem PySem.W PySem.Calls PyProof.Rows
set_option maxHeartbeats 0 in
theorem K19.holds_of (lawA : ∀ {w : World} {K : PySem.W.Frag} {mg : Str → Option Value} {fa : Addr} {h : Heap}, K.In h → h.Ns mainGlobals mg → DY.SaysY K19.fileS K19.fas K19.fns [] K19.xds K19.exs K19.tfs w h K → mg "law" = some (.ref fa) → LamX.LawAtS PySem.Challenge.rw_weaktalks_k19_errors_made w K (L2.CX K19.R.prog w) 12 63 "_law_script" mg fa h) : PySem.Challenge.rw_weaktalks_k19_errors_made.Holds := by
 w_on; o_law
 refine HandSHeadRun.head_any (r := OpenLaw.row PySem.Challenge.rw_weaktalks_k19_errors_made) (q := view (OpenLaw.row PySem.Challenge.rw_weaktalks_k19_errors_made).prog [K19.iLaw]) (H := K19.hk) (ob := K19.ob) (M := 14000) (loose := K19.names) (d := HandSHeadRun.topDef (OpenLaw.row PySem.Challenge.rw_weaktalks_k19_errors_made).prog K19.iLaw) (kwd := []) K19.ob_eq
  (by kernel_rfl) (fun s => by kernel_rfl) K19.run (by kernel_rfl) (by kernel_rfl) (by kernel_rfl) (by rfl) (by first | assumption | decide +kernel) (by decide +kernel) ⟨rfl, rfl, rfl, rfl, rfl, by decide +kernel⟩ ?hw ?hc
 case hw => w_witness2
 case hc =>
  refine LamX.walk_ofTsE (l := PySem.Challenge.rw_weaktalks_k19_errors_made) (n := 63) (k := 12) (x := "_law_script") (CX := fun w => L2.CX K19.R.prog w) rfl (by decide) (by kernel_rfl) ⟨rfl, by decide, by decide⟩ ?F (fun _ _ _ _ _ z => by
   obtain ⟨_, _, _, _, _, _, _, _, _, _, _, _, z⟩ := z
   exact z)
  intro w mg fa h Y G hmg0
  obtain ⟨K, KX, c⟩ := Y
  have hmg : mg ("law" : PySem.Str) = some (.ref fa) := by
   have e : (HandSHeadRun.topDef (OpenLaw.row PySem.Challenge.rw_weaktalks_k19_errors_made).prog K19.iLaw).name = ("law" : PySem.Str) := by kernel_rfl
   rw [← e]
   exact hmg0
  exact ⟨K, KX, lawA KX G c hmg⟩
end
set_option Elab.async false
set_option linter.all false
set_option maxRecDepth 100000
set_option maxHeartbeats 4000000
namespace K19
open PySem PySem.Spec PyProof.Rows L2 DL
section
variable {P : Program} {w : World} {K : PySem.W.Frag} {mg : Str → Option Value} {base : Heap} {A : Ad}
local macro_rules | `(tactic| walk_at "s0") => `(tactic| with_reducible first
 | refine ws_seq ?_ | refine ws_next ?_ | refine ws_ret ?_ | refine ws_retN ?_ | refine ws_if ?_ | refine ws_asg ?_ | refine ws_drop ?_ | refine ws_par ?_ | refine ws_break ?_ | refine ws_cont ?_
 | refine we_var rfl ?_ | refine we_int ?_ | refine we_non ?_ | refine we_bl ?_ | refine we_str ?_ | refine we_ty ?_ | refine we_dnew ?_ | refine we_op ?_ | refine we_un ?_
 | refine we_and ?_ | refine we_or ?_ | refine we_not ?_ | refine we_if ?_ | refine we_chain ?_ | refine we_cb ?_ | refine we_tup ?_ | refine we_lst ?_
 | refine wl_cons ?_ | refine wl_nil ?_ | refine wt_B ?_ | refine wt_test ?_ | refine wt_and ?_ | refine wt_or ?_ | refine wt_not ?_ | refine wt_yes ?_
 | refine wi_tup ?_ | refine wi_list ?_ | refine wg_tup rfl ?_ | refine wgs_cons ?_ | refine wgs_nil ?_
 | refine rd_add_int ?_ | refine rd_sub ?_ | refine rd_lt ?_ | refine rd_le ?_ | refine rd_gt ?_ | refine rd_ge ?_ | refine rd_eq_int ?_ | refine rd_ne_int ?_ | refine rd_eq_str ?_ | refine rd_ne_str ?_ | refine rd_eq_bl ?_ | refine rd_ne_bl ?_ | refine rd_is ?_ | refine rd_is_bl ?_ | refine rd_isnot ?_ | refine ru_neg ?_
 | refine rc_int ?_ | refine rc_abs ?_ | refine rc_anyF ?_ | refine rc_allF ?_
 | refine brT ?_ | refine brF ?_ | refine brT' ?_ | refine brF' ?_
 | refine ⟨_, rfl, ?_⟩)
set_option hygiene false in
local macro_rules | `(tactic| walk_at "s1") => `(tactic| first
 | refine we_isiLT ?_ | refine we_isiILT ?_ | refine wi_seqV (by rfl) (by rfl) ?_ | walk_at "s0" | refine ⟨true, by rfl, ?_⟩ | refine ⟨false, by rfl, ?_⟩ | refine we_ref ?_ | refine we_fld1 ?_ | refine rc_isiB (r := true) (by rfl) ?_ | refine we_callF (by assumption) ?_ | refine we_callF xok0 ?_ | refine we_callFl (by assumption) ?_ | refine we_callFl xok0 ?_ | refine we_makeFl (by assumption) ?_ | refine we_makeFl xok0 ?_ | refine we_makeF (by assumption) ?_ | refine we_makeF xok0 ?_ | refine DX.ws_rs (by assumption) ?_ | refine wt_test ?_ | refine co_ret rfl (by rfl) ?_ | refine wg_nm (by rfl) ?_ | refine parB (by rfl) (by rfl) ?_ | refine szB (by rfl) ?_ | refine szL (by rfl) ?_ | refine brT2 (by rfl) ?_ | refine brF2 (by rfl) ?_ | refine brT3 (by rfl) ?_ | refine brF3 (by rfl) ?_ | refine rc_isiB (r := false) (by rfl) ?_)
set_option pp.maxSteps 300
def errsX (K : PySem.W.Frag) (A : Ad) (x : D) : List D := (tabF A ++ tabS A).map fun p => exD K p.1 [p.2] [x]
def spE {α : Type} (s : α → Sp) : Sp := fun vs H Q E => ∃ x, s x vs H Q E
theorem fn_ex {α : Type} {CX : CXT} {k : Nat} {f : Addr} {fd : FuncData} {ps : List Str} {s : α → Sp} (h : ∀ x, FnOk P w K mg base CX k f fd ps (s x)) : FnOk P w K mg base CX k f fd ps (spE s) :=
 ⟨fun vs H Q E ⟨x, z⟩ => (h x).len _ _ _ _ z, fun A outer s H args us vs Q E hr e0 hb r ⟨x, z⟩ => (h x).run A outer s H args us vs Q E hr e0 hb r z⟩
def heldS (K : PySem.W.Frag) (A : Ad) (x : D) : Spc where
 pre := fun R ds b => ds = [.lst (errsX K A x)]
 post := fun R ds b d b' => d = .lst (List.replicate 30 x) ∧ b' = b
theorem ok__law_held (T : Tx P K mg A) : CalX P w K mg base 5 "_law_held" (spE fun x => SpS K 1 (heldS K A x)) := by
 obtain ⟨a, fd, F, m, bi⟩ := T.f__law_held
 refine ⟨a, fd, _, fn_ex fun x => fnS F sc__law_held rfl (fun cdv A' outer sh H E hr => ⟨_, (pss_cons (ps_asg (pe_lst (pa_cons (DK.pe_xvf (K := K) (pe_ix (DK.ix (K := K)) (pv 0) pe_int (fun _ _ => rfl))) (pa_cons (DK.pe_xvf (K := K) (pe_ix (DK.ix (K := K)) (pv 0) pe_int (fun _ _ => rfl))) (pa_cons (DK.pe_xvf (K := K) (pe_ix (DK.ix (K := K)) (pv 0) pe_int (fun _ _ => rfl))) (pa_cons (DK.pe_xvf (K := K) (pe_ix (DK.ix (K := K)) (pv 0) pe_int (fun _ _ => rfl))) (pa_cons (DK.pe_xvf (K := K) (pe_ix (DK.ix (K := K)) (pv 0) pe_int (fun _ _ => rfl))) (pa_cons (DK.pe_xvf (K := K) (pe_ix (DK.ix (K := K)) (pv 0) pe_int (fun _ _ => rfl))) (pa_cons (DK.pe_xvf (K := K) (pe_ix (DK.ix (K := K)) (pv 0) pe_int (fun _ _ => rfl))) (pa_cons (DK.pe_xvf (K := K) (pe_ix (DK.ix (K := K)) (pv 0) pe_int (fun _ _ => rfl))) pa_nil))))))))) (pg_name (i := 1) sc__law_held.nd rfl (by first | exact .inl rfl | exact .inr rfl)))
 (pss_cons (ps_expr (pe_bm PySem.F.plainAttrs_list PySem.F.slot_list_extend PySem.F.type_list_extend mt_extend (pv 1) (pa_cons (pe_lst (pa_cons (DK.pe_xvf (K := K) (pe_ix (DK.ix (K := K)) (pv 0) pe_int (fun _ _ => rfl))) (pa_cons (DK.pe_xvf (K := K) (pe_ix (DK.ix (K := K)) (pv 0) pe_int (fun _ _ => rfl))) (pa_cons (DK.pe_xvf (K := K) (pe_ix (DK.ix (K := K)) (pv 0) pe_int (fun _ _ => rfl))) (pa_cons (DK.pe_xvf (K := K) (pe_ix (DK.ix (K := K)) (pv 0) pe_int (fun _ _ => rfl))) (pa_cons (DK.pe_xvf (K := K) (pe_ix (DK.ix (K := K)) (pv 0) pe_int (fun _ _ => rfl))) (pa_cons (DK.pe_xvf (K := K) (pe_ix (DK.ix (K := K)) (pv 0) pe_int (fun _ _ => rfl))) (pa_cons (DK.pe_xvf (K := K) (pe_ix (DK.ix (K := K)) (pv 0) pe_int (fun _ _ => rfl))) pa_nil)))))))) pa_nil)))
 (pss_cons (ps_expr (pe_bm PySem.F.plainAttrs_list PySem.F.slot_list_extend PySem.F.type_list_extend mt_extend (pv 1) (pa_cons (pe_lst (pa_cons (DK.pe_xvf (K := K) (pe_ix (DK.ix (K := K)) (pv 0) pe_int (fun _ _ => rfl))) (pa_cons (DK.pe_xvf (K := K) (pe_ix (DK.ix (K := K)) (pv 0) pe_int (fun _ _ => rfl))) (pa_cons (DK.pe_xvf (K := K) (pe_ix (DK.ix (K := K)) (pv 0) pe_int (fun _ _ => rfl))) (pa_cons (DK.pe_xvf (K := K) (pe_ix (DK.ix (K := K)) (pv 0) pe_int (fun _ _ => rfl))) (pa_cons (DK.pe_xvf (K := K) (pe_ix (DK.ix (K := K)) (pv 0) pe_int (fun _ _ => rfl))) (pa_cons (DK.pe_xvf (K := K) (pe_ix (DK.ix (K := K)) (pv 0) pe_int (fun _ _ => rfl))) (pa_cons (DK.pe_xvf (K := K) (pe_ix (DK.ix (K := K)) (pv 0) pe_int (fun _ _ => rfl))) pa_nil)))))))) pa_nil)))
 (pss_cons (ps_expr (pe_bm PySem.F.plainAttrs_list PySem.F.slot_list_extend PySem.F.type_list_extend mt_extend (pv 1) (pa_cons (pe_lst (pa_cons (DK.pe_xvf (K := K) (pe_ix (DK.ix (K := K)) (pv 0) pe_int (fun _ _ => rfl))) (pa_cons (DK.pe_xvf (K := K) (pe_ix (DK.ix (K := K)) (pv 0) pe_int (fun _ _ => rfl))) (pa_cons (DK.pe_xvf (K := K) (pe_ix (DK.ix (K := K)) (pv 0) pe_int (fun _ _ => rfl))) (pa_cons (DK.pe_xvf (K := K) (pe_ix (DK.ix (K := K)) (pv 0) pe_int (fun _ _ => rfl))) (pa_cons (DK.pe_xvf (K := K) (pe_ix (DK.ix (K := K)) (pv 0) pe_int (fun _ _ => rfl))) (pa_cons (DK.pe_xvf (K := K) (pe_ix (DK.ix (K := K)) (pv 0) pe_int (fun _ _ => rfl))) (pa_cons (DK.pe_xvf (K := K) (pe_ix (DK.ix (K := K)) (pv 0) pe_int (fun _ _ => rfl))) pa_nil)))))))) pa_nil)))
 (pss_one (ps_ret (pe_op (DK.op_add (K := K)) (pv 1) (pe_lst (pa_cons (DK.pe_xvf (K := K) (pe_ix (DK.ix (K := K)) (pv 0) pe_int (fun _ _ => rfl))) pa_nil))))))))), fun R k0 ds b hp hl hE => ?_⟩), m, F.kp, bi⟩
 subst hp
 dsimp only [startD, List.map, List.append, List.replicate]
 refine ws_seq (ws_asg (we_lstM ?_))
 refine wl_cons (we_xvf (we_op (we_var rfl (we_int (rd_ix (l := errsX K A x) rfl (atI_nat (i := 0) rfl) ⟨A.BadPrime, ["prime"], [x], x, rfl, T.xt.xf ("BadPrime", A.BadPrime) (List.mem_of_getElem? (i := 0) rfl), T.x_BadPrime.elim (fun _ t => t.noN _ (List.mem_singleton.mpr rfl)), rfl, ?_⟩)))))
 refine wl_cons (we_xvf (we_op (we_var rfl (we_int (rd_ix (l := errsX K A x) rfl (atI_nat (i := 1) rfl) ⟨A.BadNumber, ["number"], [x], x, rfl, T.xt.xf ("BadNumber", A.BadNumber) (List.mem_of_getElem? (i := 1) rfl), T.x_BadNumber.elim (fun _ t => t.noN _ (List.mem_singleton.mpr rfl)), rfl, ?_⟩)))))
 refine wl_cons (we_xvf (we_op (we_var rfl (we_int (rd_ix (l := errsX K A x) rfl (atI_nat (i := 2) rfl) ⟨A.BadTimes, ["times"], [x], x, rfl, T.xt.xf ("BadTimes", A.BadTimes) (List.mem_of_getElem? (i := 3) rfl), T.x_BadTimes.elim (fun _ t => t.noN _ (List.mem_singleton.mpr rfl)), rfl, ?_⟩)))))
 refine wl_cons (we_xvf (we_op (we_var rfl (we_int (rd_ix (l := errsX K A x) rfl (atI_nat (i := 3) rfl) ⟨A.BadNumbers, ["index"], [x], x, rfl, T.xt.xf ("BadNumbers", A.BadNumbers) (List.mem_of_getElem? (i := 4) rfl), T.x_BadNumbers.elim (fun _ t => t.noN _ (List.mem_singleton.mpr rfl)), rfl, ?_⟩)))))
 refine wl_cons (we_xvf (we_op (we_var rfl (we_int (rd_ix (l := errsX K A x) rfl (atI_nat (i := 4) rfl) ⟨A.BadPoints, ["index"], [x], x, rfl, T.xt.xf ("BadPoints", A.BadPoints) (List.mem_of_getElem? (i := 6) rfl), T.x_BadPoints.elim (fun _ t => t.noN _ (List.mem_singleton.mpr rfl)), rfl, ?_⟩)))))
 refine wl_cons (we_xvf (we_op (we_var rfl (we_int (rd_ix (l := errsX K A x) rfl (atI_nat (i := 5) rfl) ⟨A.BadTerm, ["index"], [x], x, rfl, T.xt.xf ("BadTerm", A.BadTerm) (List.mem_of_getElem? (i := 7) rfl), T.x_BadTerm.elim (fun _ t => t.noN _ (List.mem_singleton.mpr rfl)), rfl, ?_⟩)))))
 refine wl_cons (we_xvf (we_op (we_var rfl (we_int (rd_ix (l := errsX K A x) rfl (atI_nat (i := 6) rfl) ⟨A.BadLetter, ["letter"], [x], x, rfl, T.xt.xf ("BadLetter", A.BadLetter) (List.mem_of_getElem? (i := 8) rfl), T.x_BadLetter.elim (fun _ t => t.noN _ (List.mem_singleton.mpr rfl)), rfl, ?_⟩)))))
 refine wl_cons (we_xvf (we_op (we_var rfl (we_int (rd_ix (l := errsX K A x) rfl (atI_nat (i := 7) rfl) ⟨A.BadValues, ["letter"], [x], x, rfl, T.xt.xf ("BadValues", A.BadValues) (List.mem_of_getElem? (i := 9) rfl), T.x_BadValues.elim (fun _ t => t.noN _ (List.mem_singleton.mpr rfl)), rfl, ?_⟩)))))
 refine wl_nil (szB rfl fun q nq => wg_nm (by rfl) ?_)
 dsimp only [List.set]
 refine ws_seq (ws_extend (j := 0) (o := q) (ds := [x, x, x, x, x, x, x, x]) (fun _ _ _ z => (nomatch z)) (we_var rfl ⟨rfl, ⟨_, rfl⟩, we_lst ?_⟩))
 refine wl_cons (we_xvf (we_op (we_var rfl (we_int (rd_ix (l := errsX K A x) rfl (atI_nat (i := 8) rfl) ⟨A.BadThing, ["thing"], [x], x, rfl, T.xt.xf ("BadThing", A.BadThing) (List.mem_of_getElem? (i := 10) rfl), T.x_BadThing.elim (fun _ t => t.noN _ (List.mem_singleton.mpr rfl)), rfl, ?_⟩)))))
 refine wl_cons (we_xvf (we_op (we_var rfl (we_int (rd_ix (l := errsX K A x) rfl (atI_nat (i := 9) rfl) ⟨A.BadLetters, ["index"], [x], x, rfl, T.xt.xf ("BadLetters", A.BadLetters) (List.mem_of_getElem? (i := 11) rfl), T.x_BadLetters.elim (fun _ t => t.noN _ (List.mem_singleton.mpr rfl)), rfl, ?_⟩)))))
 refine wl_cons (we_xvf (we_op (we_var rfl (we_int (rd_ix (l := errsX K A x) rfl (atI_nat (i := 10) rfl) ⟨A.BadCoin, ["index"], [x], x, rfl, T.xt.xf ("BadCoin", A.BadCoin) (List.mem_of_getElem? (i := 12) rfl), T.x_BadCoin.elim (fun _ t => t.noN _ (List.mem_singleton.mpr rfl)), rfl, ?_⟩)))))
 refine wl_cons (we_xvf (we_op (we_var rfl (we_int (rd_ix (l := errsX K A x) rfl (atI_nat (i := 11) rfl) ⟨A.BadDegree, ["number"], [x], x, rfl, T.xt.xf ("BadDegree", A.BadDegree) (List.mem_of_getElem? (i := 13) rfl), T.x_BadDegree.elim (fun _ t => t.noN _ (List.mem_singleton.mpr rfl)), rfl, ?_⟩)))))
 refine wl_cons (we_xvf (we_op (we_var rfl (we_int (rd_ix (l := errsX K A x) rfl (atI_nat (i := 12) rfl) ⟨A.BadBeat, ["index"], [x], x, rfl, T.xt.xf ("BadBeat", A.BadBeat) (List.mem_of_getElem? (i := 15) rfl), T.x_BadBeat.elim (fun _ t => t.noN _ (List.mem_singleton.mpr rfl)), rfl, ?_⟩)))))
 refine wl_cons (we_xvf (we_op (we_var rfl (we_int (rd_ix (l := errsX K A x) rfl (atI_nat (i := 13) rfl) ⟨A.NoBeat, ["index"], [x], x, rfl, T.xt.xf ("NoBeat", A.NoBeat) (List.mem_of_getElem? (i := 16) rfl), T.x_NoBeat.elim (fun _ t => t.noN _ (List.mem_singleton.mpr rfl)), rfl, ?_⟩)))))
 refine wl_cons (we_xvf (we_op (we_var rfl (we_int (rd_ix (l := errsX K A x) rfl (atI_nat (i := 14) rfl) ⟨A.BadThrown, ["index"], [x], x, rfl, T.xt.xf ("BadThrown", A.BadThrown) (List.mem_of_getElem? (i := 17) rfl), T.x_BadThrown.elim (fun _ t => t.noN _ (List.mem_singleton.mpr rfl)), rfl, ?_⟩)))))
 refine wl_nil (szB rfl ⟨_, rfl, rfl, le_size (show 8 + 7 ≤ 16777216 by decide), ?_⟩)
 dsimp only [List.set, List.append]
 refine ws_seq (ws_extend (j := 0) (o := q) (ds := [x, x, x, x, x, x, x, x, x, x, x, x, x, x, x]) (fun _ _ _ z => (nomatch z)) (we_var rfl ⟨rfl, ⟨_, rfl⟩, we_lst ?_⟩))
 refine wl_cons (we_xvf (we_op (we_var rfl (we_int (rd_ix (l := errsX K A x) rfl (atI_nat (i := 15) rfl) ⟨A.BadMessages, ["index"], [x], x, rfl, T.xt.xf ("BadMessages", A.BadMessages) (List.mem_of_getElem? (i := 18) rfl), T.x_BadMessages.elim (fun _ t => t.noN _ (List.mem_singleton.mpr rfl)), rfl, ?_⟩)))))
 refine wl_cons (we_xvf (we_op (we_var rfl (we_int (rd_ix (l := errsX K A x) rfl (atI_nat (i := 16) rfl) ⟨A.NoSum, ["index"], [x], x, rfl, T.xt.xf ("NoSum", A.NoSum) (List.mem_of_getElem? (i := 19) rfl), T.x_NoSum.elim (fun _ t => t.noN _ (List.mem_singleton.mpr rfl)), rfl, ?_⟩)))))
 refine wl_cons (we_xvf (we_op (we_var rfl (we_int (rd_ix (l := errsX K A x) rfl (atI_nat (i := 17) rfl) ⟨A.Narrow, ["index"], [x], x, rfl, T.xt.xf ("Narrow", A.Narrow) (List.mem_of_getElem? (i := 20) rfl), T.x_Narrow.elim (fun _ t => t.noN _ (List.mem_singleton.mpr rfl)), rfl, ?_⟩)))))
 refine wl_cons (we_xvf (we_op (we_var rfl (we_int (rd_ix (l := errsX K A x) rfl (atI_nat (i := 18) rfl) ⟨A.BadTeller, ["teller"], [x], x, rfl, T.xt.xf ("BadTeller", A.BadTeller) (List.mem_of_getElem? (i := 21) rfl), T.x_BadTeller.elim (fun _ t => t.noN _ (List.mem_singleton.mpr rfl)), rfl, ?_⟩)))))
 refine wl_cons (we_xvf (we_op (we_var rfl (we_int (rd_ix (l := errsX K A x) rfl (atI_nat (i := 19) rfl) ⟨A.BadLayer, ["index"], [x], x, rfl, T.xt.xf ("BadLayer", A.BadLayer) (List.mem_of_getElem? (i := 22) rfl), T.x_BadLayer.elim (fun _ t => t.noN _ (List.mem_singleton.mpr rfl)), rfl, ?_⟩)))))
 refine wl_cons (we_xvf (we_op (we_var rfl (we_int (rd_ix (l := errsX K A x) rfl (atI_nat (i := 20) rfl) ⟨A.BadInputs, ["inputs"], [x], x, rfl, T.xt.xf ("BadInputs", A.BadInputs) (List.mem_of_getElem? (i := 23) rfl), T.x_BadInputs.elim (fun _ t => t.noN _ (List.mem_singleton.mpr rfl)), rfl, ?_⟩)))))
 refine wl_cons (we_xvf (we_op (we_var rfl (we_int (rd_ix (l := errsX K A x) rfl (atI_nat (i := 21) rfl) ⟨A.NoLayer, ["layer"], [x], x, rfl, T.xt.xf ("NoLayer", A.NoLayer) (List.mem_of_getElem? (i := 25) rfl), T.x_NoLayer.elim (fun _ t => t.noN _ (List.mem_singleton.mpr rfl)), rfl, ?_⟩)))))
 refine wl_nil (szB rfl ⟨_, rfl, rfl, le_size (show 15 + 7 ≤ 16777216 by decide), ?_⟩)
 dsimp only [List.set, List.append]
 refine ws_seq (ws_extend (j := 0) (o := q) (ds := [x, x, x, x, x, x, x, x, x, x, x, x, x, x, x, x, x, x, x, x, x, x]) (fun _ _ _ z => (nomatch z)) (we_var rfl ⟨rfl, ⟨_, rfl⟩, we_lst ?_⟩))
 refine wl_cons (we_xvf (we_op (we_var rfl (we_int (rd_ix (l := errsX K A x) rfl (atI_nat (i := 22) rfl) ⟨A.BadPlace, ["thing"], [x], x, rfl, T.xt.xf ("BadPlace", A.BadPlace) (List.mem_of_getElem? (i := 26) rfl), T.x_BadPlace.elim (fun _ t => t.noN _ (List.mem_singleton.mpr rfl)), rfl, ?_⟩)))))
 refine wl_cons (we_xvf (we_op (we_var rfl (we_int (rd_ix (l := errsX K A x) rfl (atI_nat (i := 23) rfl) ⟨A.BadCells, ["thing"], [x], x, rfl, T.xt.xf ("BadCells", A.BadCells) (List.mem_of_getElem? (i := 27) rfl), T.x_BadCells.elim (fun _ t => t.noN _ (List.mem_singleton.mpr rfl)), rfl, ?_⟩)))))
 refine wl_cons (we_xvf (we_op (we_var rfl (we_int (rd_ix (l := errsX K A x) rfl (atI_nat (i := 24) rfl) ⟨A.BadLook, ["index"], [x], x, rfl, T.xt.xf ("BadLook", A.BadLook) (List.mem_of_getElem? (i := 28) rfl), T.x_BadLook.elim (fun _ t => t.noN _ (List.mem_singleton.mpr rfl)), rfl, ?_⟩)))))
 refine wl_cons (we_xvf (we_op (we_var rfl (we_int (rd_ix (l := errsX K A x) rfl (atI_nat (i := 25) rfl) ⟨A.BadSame, ["index"], [x], x, rfl, T.xt.xf ("BadSame", A.BadSame) (List.mem_of_getElem? (i := 29) rfl), T.x_BadSame.elim (fun _ t => t.noN _ (List.mem_singleton.mpr rfl)), rfl, ?_⟩)))))
 refine wl_cons (we_xvf (we_op (we_var rfl (we_int (rd_ix (l := errsX K A x) rfl (atI_nat (i := 26) rfl) ⟨A.BadLast, ["last"], [x], x, rfl, T.xt.xf ("BadLast", A.BadLast) (List.mem_of_getElem? (i := 30) rfl), T.x_BadLast.elim (fun _ t => t.noN _ (List.mem_singleton.mpr rfl)), rfl, ?_⟩)))))
 refine wl_cons (we_xvf (we_op (we_var rfl (we_int (rd_ix (l := errsX K A x) rfl (atI_nat (i := 27) rfl) ⟨A.BadShare, ["share"], [x], x, rfl, T.xt.xf ("BadShare", A.BadShare) (List.mem_of_getElem? (i := 31) rfl), T.x_BadShare.elim (fun _ t => t.noN _ (List.mem_singleton.mpr rfl)), rfl, ?_⟩)))))
 refine wl_cons (we_xvf (we_op (we_var rfl (we_int (rd_ix (l := errsX K A x) rfl (atI_nat (i := 28) rfl) ⟨A.NotCoin, ["number"], [x], x, rfl, T.xt.xf ("NotCoin", A.NotCoin) (List.mem_of_getElem? (i := 32) rfl), T.x_NotCoin.elim (fun _ t => t.noN _ (List.mem_singleton.mpr rfl)), rfl, ?_⟩)))))
 refine wl_nil (szB rfl ⟨_, rfl, rfl, le_size (show 22 + 7 ≤ 16777216 by decide), ?_⟩)
 dsimp only [List.set, List.append]
 refine ws_freeze (i := 1) (j := 0) rfl rfl rfl ?_
 dsimp only [List.set, List.eraseIdx]
 refine ws_ret (we_op (we_var rfl (we_lst ?_)))
 refine wl_cons (we_xvf (we_op (we_var rfl (we_int (rd_ix (l := errsX K A x) rfl (atI_nat (i := 29) rfl) ⟨A.BadText, ["line"], [x], x, rfl, T.xt.xf ("BadText", A.BadText) (List.mem_of_getElem? (i := 34) rfl), T.x_BadText.elim (fun _ t => t.noN _ (List.mem_singleton.mpr rfl)), rfl, ?_⟩)))))
 exact wl_nil (szB rfl (rd_add_lst (le_size (show 29 + 1 ≤ 16777216 by decide)) ⟨rfl, rfl⟩))
def clsN : List Str := [("BadPrime" : Str), ("BadNumber" : Str), ("BadTimes" : Str), ("BadNumbers" : Str), ("BadPoints" : Str), ("BadTerm" : Str), ("BadLetter" : Str), ("BadValues" : Str), ("BadThing" : Str), ("BadLetters" : Str), ("BadCoin" : Str), ("BadDegree" : Str), ("BadBeat" : Str), ("NoBeat" : Str), ("BadThrown" : Str), ("BadMessages" : Str), ("NoSum" : Str), ("Narrow" : Str), ("BadTeller" : Str), ("BadLayer" : Str), ("BadInputs" : Str), ("NoLayer" : Str), ("BadPlace" : Str), ("BadCells" : Str), ("BadLook" : Str), ("BadSame" : Str), ("BadLast" : Str), ("BadShare" : Str), ("NotCoin" : Str), ("BadText" : Str), ("NoInverse" : Str), ("UnlikePrimes" : Str), ("NoPoly" : Str), ("NotNow" : Str), ("BadGate" : Str)]
def xTab (A : Ad) : List (Str × Addr) := [(("BadPrime" : Str), A.BadPrime), (("BadNumber" : Str), A.BadNumber), (("NoInverse" : Str), A.NoInverse), (("BadTimes" : Str), A.BadTimes), (("BadNumbers" : Str), A.BadNumbers), (("UnlikePrimes" : Str), A.UnlikePrimes), (("BadPoints" : Str), A.BadPoints), (("BadTerm" : Str), A.BadTerm), (("BadLetter" : Str), A.BadLetter), (("BadValues" : Str), A.BadValues), (("BadThing" : Str), A.BadThing), (("BadLetters" : Str), A.BadLetters), (("BadCoin" : Str), A.BadCoin), (("BadDegree" : Str), A.BadDegree), (("NoPoly" : Str), A.NoPoly), (("BadBeat" : Str), A.BadBeat), (("NoBeat" : Str), A.NoBeat), (("BadThrown" : Str), A.BadThrown), (("BadMessages" : Str), A.BadMessages), (("NoSum" : Str), A.NoSum), (("Narrow" : Str), A.Narrow), (("BadTeller" : Str), A.BadTeller), (("BadLayer" : Str), A.BadLayer), (("BadInputs" : Str), A.BadInputs), (("BadGate" : Str), A.BadGate), (("NoLayer" : Str), A.NoLayer), (("BadPlace" : Str), A.BadPlace), (("BadCells" : Str), A.BadCells), (("BadLook" : Str), A.BadLook), (("BadSame" : Str), A.BadSame), (("BadLast" : Str), A.BadLast), (("BadShare" : Str), A.BadShare), (("NotCoin" : Str), A.NotCoin), (("NotNow" : Str), A.NotNow), (("BadText" : Str), A.BadText)]
def clsD (n : Str) : D := .lst (clsN.map fun c => .bl (decide (n = c)))
def clsS (K : PySem.W.Frag) (A : Ad) (n : Str) : Spc where
 pre := fun R ds b => ∃ C ns fs, (n, C) ∈ xTab A ∧ ds = [exD K C ns fs]
 post := fun R ds b d b' => d = clsD n ∧ b' = b
set_option pp.maxSteps 300
theorem ok__law_classes (T : Tx P K mg A) : CalX P w K mg base 5 "_law_classes" (spE fun n => SpS K 1 (clsS K A n)) := by
 obtain ⟨a, fd, F, m, bi⟩ := T.f__law_classes
 refine ⟨a, fd, _, fn_ex fun n0 => fnS F sc__law_classes rfl (fun cdv A' outer sh H E hr => ⟨_, (pss_cons (ps_asg (pe_lst (pa_cons (pe_callB (DK.isX (K := K)) (by rfl) T.z_isinstance (by decide +kernel) (pa_cons (pv 0) (pa_cons (pe_glob (v := V.ref _) (by rfl) T.m_BadPrime rfl) pa_nil))) (pa_cons (pe_callB (DK.isX (K := K)) (by rfl) T.z_isinstance (by decide +kernel) (pa_cons (pv 0) (pa_cons (pe_glob (v := V.ref _) (by rfl) T.m_BadNumber rfl) pa_nil))) (pa_cons (pe_callB (DK.isX (K := K)) (by rfl) T.z_isinstance (by decide +kernel) (pa_cons (pv 0) (pa_cons (pe_glob (v := V.ref _) (by rfl) T.m_BadTimes rfl) pa_nil))) (pa_cons (pe_callB (DK.isX (K := K)) (by rfl) T.z_isinstance (by decide +kernel) (pa_cons (pv 0) (pa_cons (pe_glob (v := V.ref _) (by rfl) T.m_BadNumbers rfl) pa_nil))) pa_nil))))) (pg_name (i := 1) sc__law_classes.nd rfl (by first | exact .inl rfl | exact .inr rfl)))
 (pss_cons (ps_expr (pe_bm PySem.F.plainAttrs_list PySem.F.slot_list_extend PySem.F.type_list_extend mt_extend (pv 1) (pa_cons (pe_lst (pa_cons (pe_callB (DK.isX (K := K)) (by rfl) T.z_isinstance (by decide +kernel) (pa_cons (pv 0) (pa_cons (pe_glob (v := V.ref _) (by rfl) T.m_BadPoints rfl) pa_nil))) (pa_cons (pe_callB (DK.isX (K := K)) (by rfl) T.z_isinstance (by decide +kernel) (pa_cons (pv 0) (pa_cons (pe_glob (v := V.ref _) (by rfl) T.m_BadTerm rfl) pa_nil))) (pa_cons (pe_callB (DK.isX (K := K)) (by rfl) T.z_isinstance (by decide +kernel) (pa_cons (pv 0) (pa_cons (pe_glob (v := V.ref _) (by rfl) T.m_BadLetter rfl) pa_nil))) (pa_cons (pe_callB (DK.isX (K := K)) (by rfl) T.z_isinstance (by decide +kernel) (pa_cons (pv 0) (pa_cons (pe_glob (v := V.ref _) (by rfl) T.m_BadValues rfl) pa_nil))) pa_nil))))) pa_nil)))
 (pss_cons (ps_expr (pe_bm PySem.F.plainAttrs_list PySem.F.slot_list_extend PySem.F.type_list_extend mt_extend (pv 1) (pa_cons (pe_lst (pa_cons (pe_callB (DK.isX (K := K)) (by rfl) T.z_isinstance (by decide +kernel) (pa_cons (pv 0) (pa_cons (pe_glob (v := V.ref _) (by rfl) T.m_BadThing rfl) pa_nil))) (pa_cons (pe_callB (DK.isX (K := K)) (by rfl) T.z_isinstance (by decide +kernel) (pa_cons (pv 0) (pa_cons (pe_glob (v := V.ref _) (by rfl) T.m_BadLetters rfl) pa_nil))) (pa_cons (pe_callB (DK.isX (K := K)) (by rfl) T.z_isinstance (by decide +kernel) (pa_cons (pv 0) (pa_cons (pe_glob (v := V.ref _) (by rfl) T.m_BadCoin rfl) pa_nil))) (pa_cons (pe_callB (DK.isX (K := K)) (by rfl) T.z_isinstance (by decide +kernel) (pa_cons (pv 0) (pa_cons (pe_glob (v := V.ref _) (by rfl) T.m_BadDegree rfl) pa_nil))) pa_nil))))) pa_nil)))
 (pss_cons (ps_expr (pe_bm PySem.F.plainAttrs_list PySem.F.slot_list_extend PySem.F.type_list_extend mt_extend (pv 1) (pa_cons (pe_lst (pa_cons (pe_callB (DK.isX (K := K)) (by rfl) T.z_isinstance (by decide +kernel) (pa_cons (pv 0) (pa_cons (pe_glob (v := V.ref _) (by rfl) T.m_BadBeat rfl) pa_nil))) (pa_cons (pe_callB (DK.isX (K := K)) (by rfl) T.z_isinstance (by decide +kernel) (pa_cons (pv 0) (pa_cons (pe_glob (v := V.ref _) (by rfl) T.m_NoBeat rfl) pa_nil))) (pa_cons (pe_callB (DK.isX (K := K)) (by rfl) T.z_isinstance (by decide +kernel) (pa_cons (pv 0) (pa_cons (pe_glob (v := V.ref _) (by rfl) T.m_BadThrown rfl) pa_nil))) (pa_cons (pe_callB (DK.isX (K := K)) (by rfl) T.z_isinstance (by decide +kernel) (pa_cons (pv 0) (pa_cons (pe_glob (v := V.ref _) (by rfl) T.m_BadMessages rfl) pa_nil))) pa_nil))))) pa_nil)))
 (pss_cons (ps_expr (pe_bm PySem.F.plainAttrs_list PySem.F.slot_list_extend PySem.F.type_list_extend mt_extend (pv 1) (pa_cons (pe_lst (pa_cons (pe_callB (DK.isX (K := K)) (by rfl) T.z_isinstance (by decide +kernel) (pa_cons (pv 0) (pa_cons (pe_glob (v := V.ref _) (by rfl) T.m_NoSum rfl) pa_nil))) (pa_cons (pe_callB (DK.isX (K := K)) (by rfl) T.z_isinstance (by decide +kernel) (pa_cons (pv 0) (pa_cons (pe_glob (v := V.ref _) (by rfl) T.m_Narrow rfl) pa_nil))) (pa_cons (pe_callB (DK.isX (K := K)) (by rfl) T.z_isinstance (by decide +kernel) (pa_cons (pv 0) (pa_cons (pe_glob (v := V.ref _) (by rfl) T.m_BadTeller rfl) pa_nil))) (pa_cons (pe_callB (DK.isX (K := K)) (by rfl) T.z_isinstance (by decide +kernel) (pa_cons (pv 0) (pa_cons (pe_glob (v := V.ref _) (by rfl) T.m_BadLayer rfl) pa_nil))) pa_nil))))) pa_nil)))
 (pss_cons (ps_expr (pe_bm PySem.F.plainAttrs_list PySem.F.slot_list_extend PySem.F.type_list_extend mt_extend (pv 1) (pa_cons (pe_lst (pa_cons (pe_callB (DK.isX (K := K)) (by rfl) T.z_isinstance (by decide +kernel) (pa_cons (pv 0) (pa_cons (pe_glob (v := V.ref _) (by rfl) T.m_BadInputs rfl) pa_nil))) (pa_cons (pe_callB (DK.isX (K := K)) (by rfl) T.z_isinstance (by decide +kernel) (pa_cons (pv 0) (pa_cons (pe_glob (v := V.ref _) (by rfl) T.m_NoLayer rfl) pa_nil))) (pa_cons (pe_callB (DK.isX (K := K)) (by rfl) T.z_isinstance (by decide +kernel) (pa_cons (pv 0) (pa_cons (pe_glob (v := V.ref _) (by rfl) T.m_BadPlace rfl) pa_nil))) (pa_cons (pe_callB (DK.isX (K := K)) (by rfl) T.z_isinstance (by decide +kernel) (pa_cons (pv 0) (pa_cons (pe_glob (v := V.ref _) (by rfl) T.m_BadCells rfl) pa_nil))) pa_nil))))) pa_nil)))
 (pss_cons (ps_expr (pe_bm PySem.F.plainAttrs_list PySem.F.slot_list_extend PySem.F.type_list_extend mt_extend (pv 1) (pa_cons (pe_lst (pa_cons (pe_callB (DK.isX (K := K)) (by rfl) T.z_isinstance (by decide +kernel) (pa_cons (pv 0) (pa_cons (pe_glob (v := V.ref _) (by rfl) T.m_BadLook rfl) pa_nil))) (pa_cons (pe_callB (DK.isX (K := K)) (by rfl) T.z_isinstance (by decide +kernel) (pa_cons (pv 0) (pa_cons (pe_glob (v := V.ref _) (by rfl) T.m_BadSame rfl) pa_nil))) (pa_cons (pe_callB (DK.isX (K := K)) (by rfl) T.z_isinstance (by decide +kernel) (pa_cons (pv 0) (pa_cons (pe_glob (v := V.ref _) (by rfl) T.m_BadLast rfl) pa_nil))) (pa_cons (pe_callB (DK.isX (K := K)) (by rfl) T.z_isinstance (by decide +kernel) (pa_cons (pv 0) (pa_cons (pe_glob (v := V.ref _) (by rfl) T.m_BadShare rfl) pa_nil))) pa_nil))))) pa_nil)))
 (pss_cons (ps_expr (pe_bm PySem.F.plainAttrs_list PySem.F.slot_list_extend PySem.F.type_list_extend mt_extend (pv 1) (pa_cons (pe_lst (pa_cons (pe_callB (DK.isX (K := K)) (by rfl) T.z_isinstance (by decide +kernel) (pa_cons (pv 0) (pa_cons (pe_glob (v := V.ref _) (by rfl) T.m_NotCoin rfl) pa_nil))) (pa_cons (pe_callB (DK.isX (K := K)) (by rfl) T.z_isinstance (by decide +kernel) (pa_cons (pv 0) (pa_cons (pe_glob (v := V.ref _) (by rfl) T.m_BadText rfl) pa_nil))) (pa_cons (pe_callB (DK.isX (K := K)) (by rfl) T.z_isinstance (by decide +kernel) (pa_cons (pv 0) (pa_cons (pe_glob (v := V.ref _) (by rfl) T.m_NoInverse rfl) pa_nil))) pa_nil)))) pa_nil)))
 (pss_cons (ps_expr (pe_bm PySem.F.plainAttrs_list PySem.F.slot_list_extend PySem.F.type_list_extend mt_extend (pv 1) (pa_cons (pe_lst (pa_cons (pe_callB (DK.isX (K := K)) (by rfl) T.z_isinstance (by decide +kernel) (pa_cons (pv 0) (pa_cons (pe_glob (v := V.ref _) (by rfl) T.m_UnlikePrimes rfl) pa_nil))) (pa_cons (pe_callB (DK.isX (K := K)) (by rfl) T.z_isinstance (by decide +kernel) (pa_cons (pv 0) (pa_cons (pe_glob (v := V.ref _) (by rfl) T.m_NoPoly rfl) pa_nil))) (pa_cons (pe_callB (DK.isX (K := K)) (by rfl) T.z_isinstance (by decide +kernel) (pa_cons (pv 0) (pa_cons (pe_glob (v := V.ref _) (by rfl) T.m_NotNow rfl) pa_nil))) pa_nil)))) pa_nil)))
 (pss_one (ps_ret (pe_op (DK.op_add (K := K)) (pv 1) (pe_lst (pa_cons (pe_callB (DK.isX (K := K)) (by rfl) T.z_isinstance (by decide +kernel) (pa_cons (pv 0) (pa_cons (pe_glob (v := V.ref _) (by rfl) T.m_BadGate rfl) pa_nil))) pa_nil)))))))))))))), fun R k0 ds b hp hl hE => ?_⟩), m, F.kp, bi⟩
 obtain ⟨C, ns, fs, hp, rfl⟩ := hp
 dsimp only [startD, List.map, List.append, List.replicate]
 refine ws_seq (ws_asg (we_lstM ?_))
 refine wl_cons (we_cb (wl_cons (we_var rfl (wl_cons (we_ref (wl_nil (rc_isX (T.xt.ec (n0, C) hp) (T.xt.is (n0, C) hp ("BadPrime", A.BadPrime) (List.mem_of_getElem? (i := 0) rfl)) ?_)))))))
 refine wl_cons (we_cb (wl_cons (we_var rfl (wl_cons (we_ref (wl_nil (rc_isX (T.xt.ec (n0, C) hp) (T.xt.is (n0, C) hp ("BadNumber", A.BadNumber) (List.mem_of_getElem? (i := 1) rfl)) ?_)))))))
 refine wl_cons (we_cb (wl_cons (we_var rfl (wl_cons (we_ref (wl_nil (rc_isX (T.xt.ec (n0, C) hp) (T.xt.is (n0, C) hp ("BadTimes", A.BadTimes) (List.mem_of_getElem? (i := 3) rfl)) ?_)))))))
 refine wl_cons (we_cb (wl_cons (we_var rfl (wl_cons (we_ref (wl_nil (rc_isX (T.xt.ec (n0, C) hp) (T.xt.is (n0, C) hp ("BadNumbers", A.BadNumbers) (List.mem_of_getElem? (i := 4) rfl)) ?_)))))))
 refine wl_nil (szB rfl fun q nq => wg_nm (by rfl) ?_)
 dsimp only [List.set]
 refine ws_seq (ws_extend (j := 0) (o := q) (ds := [.bl (decide (n0 = "BadPrime")), .bl (decide (n0 = "BadNumber")), .bl (decide (n0 = "BadTimes")), .bl (decide (n0 = "BadNumbers"))]) (fun _ _ _ z => (nomatch z)) (we_var rfl ⟨rfl, ⟨_, rfl⟩, we_lst ?_⟩))
 refine wl_cons (we_cb (wl_cons (we_var rfl (wl_cons (we_ref (wl_nil (rc_isX (T.xt.ec (n0, C) hp) (T.xt.is (n0, C) hp ("BadPoints", A.BadPoints) (List.mem_of_getElem? (i := 6) rfl)) ?_)))))))
 refine wl_cons (we_cb (wl_cons (we_var rfl (wl_cons (we_ref (wl_nil (rc_isX (T.xt.ec (n0, C) hp) (T.xt.is (n0, C) hp ("BadTerm", A.BadTerm) (List.mem_of_getElem? (i := 7) rfl)) ?_)))))))
 refine wl_cons (we_cb (wl_cons (we_var rfl (wl_cons (we_ref (wl_nil (rc_isX (T.xt.ec (n0, C) hp) (T.xt.is (n0, C) hp ("BadLetter", A.BadLetter) (List.mem_of_getElem? (i := 8) rfl)) ?_)))))))
 refine wl_cons (we_cb (wl_cons (we_var rfl (wl_cons (we_ref (wl_nil (rc_isX (T.xt.ec (n0, C) hp) (T.xt.is (n0, C) hp ("BadValues", A.BadValues) (List.mem_of_getElem? (i := 9) rfl)) ?_)))))))
 refine wl_nil (szB rfl ⟨_, rfl, rfl, le_size (show 4 + 4 ≤ 16777216 by decide), ?_⟩)
 dsimp only [List.set, List.append]
 refine ws_seq (ws_extend (j := 0) (o := q) (ds := [.bl (decide (n0 = "BadPrime")), .bl (decide (n0 = "BadNumber")), .bl (decide (n0 = "BadTimes")), .bl (decide (n0 = "BadNumbers")), .bl (decide (n0 = "BadPoints")), .bl (decide (n0 = "BadTerm")), .bl (decide (n0 = "BadLetter")), .bl (decide (n0 = "BadValues"))]) (fun _ _ _ z => (nomatch z)) (we_var rfl ⟨rfl, ⟨_, rfl⟩, we_lst ?_⟩))
 refine wl_cons (we_cb (wl_cons (we_var rfl (wl_cons (we_ref (wl_nil (rc_isX (T.xt.ec (n0, C) hp) (T.xt.is (n0, C) hp ("BadThing", A.BadThing) (List.mem_of_getElem? (i := 10) rfl)) ?_)))))))
 refine wl_cons (we_cb (wl_cons (we_var rfl (wl_cons (we_ref (wl_nil (rc_isX (T.xt.ec (n0, C) hp) (T.xt.is (n0, C) hp ("BadLetters", A.BadLetters) (List.mem_of_getElem? (i := 11) rfl)) ?_)))))))
 refine wl_cons (we_cb (wl_cons (we_var rfl (wl_cons (we_ref (wl_nil (rc_isX (T.xt.ec (n0, C) hp) (T.xt.is (n0, C) hp ("BadCoin", A.BadCoin) (List.mem_of_getElem? (i := 12) rfl)) ?_)))))))
 refine wl_cons (we_cb (wl_cons (we_var rfl (wl_cons (we_ref (wl_nil (rc_isX (T.xt.ec (n0, C) hp) (T.xt.is (n0, C) hp ("BadDegree", A.BadDegree) (List.mem_of_getElem? (i := 13) rfl)) ?_)))))))
 refine wl_nil (szB rfl ⟨_, rfl, rfl, le_size (show 8 + 4 ≤ 16777216 by decide), ?_⟩)
 dsimp only [List.set, List.append]
 refine ws_seq (ws_extend (j := 0) (o := q) (ds := [.bl (decide (n0 = "BadPrime")), .bl (decide (n0 = "BadNumber")), .bl (decide (n0 = "BadTimes")), .bl (decide (n0 = "BadNumbers")), .bl (decide (n0 = "BadPoints")), .bl (decide (n0 = "BadTerm")), .bl (decide (n0 = "BadLetter")), .bl (decide (n0 = "BadValues")), .bl (decide (n0 = "BadThing")), .bl (decide (n0 = "BadLetters")), .bl (decide (n0 = "BadCoin")), .bl (decide (n0 = "BadDegree"))]) (fun _ _ _ z => (nomatch z)) (we_var rfl ⟨rfl, ⟨_, rfl⟩, we_lst ?_⟩))
 refine wl_cons (we_cb (wl_cons (we_var rfl (wl_cons (we_ref (wl_nil (rc_isX (T.xt.ec (n0, C) hp) (T.xt.is (n0, C) hp ("BadBeat", A.BadBeat) (List.mem_of_getElem? (i := 15) rfl)) ?_)))))))
 refine wl_cons (we_cb (wl_cons (we_var rfl (wl_cons (we_ref (wl_nil (rc_isX (T.xt.ec (n0, C) hp) (T.xt.is (n0, C) hp ("NoBeat", A.NoBeat) (List.mem_of_getElem? (i := 16) rfl)) ?_)))))))
 refine wl_cons (we_cb (wl_cons (we_var rfl (wl_cons (we_ref (wl_nil (rc_isX (T.xt.ec (n0, C) hp) (T.xt.is (n0, C) hp ("BadThrown", A.BadThrown) (List.mem_of_getElem? (i := 17) rfl)) ?_)))))))
 refine wl_cons (we_cb (wl_cons (we_var rfl (wl_cons (we_ref (wl_nil (rc_isX (T.xt.ec (n0, C) hp) (T.xt.is (n0, C) hp ("BadMessages", A.BadMessages) (List.mem_of_getElem? (i := 18) rfl)) ?_)))))))
 refine wl_nil (szB rfl ⟨_, rfl, rfl, le_size (show 12 + 4 ≤ 16777216 by decide), ?_⟩)
 dsimp only [List.set, List.append]
 refine ws_seq (ws_extend (j := 0) (o := q) (ds := [.bl (decide (n0 = "BadPrime")), .bl (decide (n0 = "BadNumber")), .bl (decide (n0 = "BadTimes")), .bl (decide (n0 = "BadNumbers")), .bl (decide (n0 = "BadPoints")), .bl (decide (n0 = "BadTerm")), .bl (decide (n0 = "BadLetter")), .bl (decide (n0 = "BadValues")), .bl (decide (n0 = "BadThing")), .bl (decide (n0 = "BadLetters")), .bl (decide (n0 = "BadCoin")), .bl (decide (n0 = "BadDegree")), .bl (decide (n0 = "BadBeat")), .bl (decide (n0 = "NoBeat")), .bl (decide (n0 = "BadThrown")), .bl (decide (n0 = "BadMessages"))]) (fun _ _ _ z => (nomatch z)) (we_var rfl ⟨rfl, ⟨_, rfl⟩, we_lst ?_⟩))
 refine wl_cons (we_cb (wl_cons (we_var rfl (wl_cons (we_ref (wl_nil (rc_isX (T.xt.ec (n0, C) hp) (T.xt.is (n0, C) hp ("NoSum", A.NoSum) (List.mem_of_getElem? (i := 19) rfl)) ?_)))))))
 refine wl_cons (we_cb (wl_cons (we_var rfl (wl_cons (we_ref (wl_nil (rc_isX (T.xt.ec (n0, C) hp) (T.xt.is (n0, C) hp ("Narrow", A.Narrow) (List.mem_of_getElem? (i := 20) rfl)) ?_)))))))
 refine wl_cons (we_cb (wl_cons (we_var rfl (wl_cons (we_ref (wl_nil (rc_isX (T.xt.ec (n0, C) hp) (T.xt.is (n0, C) hp ("BadTeller", A.BadTeller) (List.mem_of_getElem? (i := 21) rfl)) ?_)))))))
 refine wl_cons (we_cb (wl_cons (we_var rfl (wl_cons (we_ref (wl_nil (rc_isX (T.xt.ec (n0, C) hp) (T.xt.is (n0, C) hp ("BadLayer", A.BadLayer) (List.mem_of_getElem? (i := 22) rfl)) ?_)))))))
 refine wl_nil (szB rfl ⟨_, rfl, rfl, le_size (show 16 + 4 ≤ 16777216 by decide), ?_⟩)
 dsimp only [List.set, List.append]
 refine ws_seq (ws_extend (j := 0) (o := q) (ds := [.bl (decide (n0 = "BadPrime")), .bl (decide (n0 = "BadNumber")), .bl (decide (n0 = "BadTimes")), .bl (decide (n0 = "BadNumbers")), .bl (decide (n0 = "BadPoints")), .bl (decide (n0 = "BadTerm")), .bl (decide (n0 = "BadLetter")), .bl (decide (n0 = "BadValues")), .bl (decide (n0 = "BadThing")), .bl (decide (n0 = "BadLetters")), .bl (decide (n0 = "BadCoin")), .bl (decide (n0 = "BadDegree")), .bl (decide (n0 = "BadBeat")), .bl (decide (n0 = "NoBeat")), .bl (decide (n0 = "BadThrown")), .bl (decide (n0 = "BadMessages")), .bl (decide (n0 = "NoSum")), .bl (decide (n0 = "Narrow")), .bl (decide (n0 = "BadTeller")), .bl (decide (n0 = "BadLayer"))]) (fun _ _ _ z => (nomatch z)) (we_var rfl ⟨rfl, ⟨_, rfl⟩, we_lst ?_⟩))
 refine wl_cons (we_cb (wl_cons (we_var rfl (wl_cons (we_ref (wl_nil (rc_isX (T.xt.ec (n0, C) hp) (T.xt.is (n0, C) hp ("BadInputs", A.BadInputs) (List.mem_of_getElem? (i := 23) rfl)) ?_)))))))
 refine wl_cons (we_cb (wl_cons (we_var rfl (wl_cons (we_ref (wl_nil (rc_isX (T.xt.ec (n0, C) hp) (T.xt.is (n0, C) hp ("NoLayer", A.NoLayer) (List.mem_of_getElem? (i := 25) rfl)) ?_)))))))
 refine wl_cons (we_cb (wl_cons (we_var rfl (wl_cons (we_ref (wl_nil (rc_isX (T.xt.ec (n0, C) hp) (T.xt.is (n0, C) hp ("BadPlace", A.BadPlace) (List.mem_of_getElem? (i := 26) rfl)) ?_)))))))
 refine wl_cons (we_cb (wl_cons (we_var rfl (wl_cons (we_ref (wl_nil (rc_isX (T.xt.ec (n0, C) hp) (T.xt.is (n0, C) hp ("BadCells", A.BadCells) (List.mem_of_getElem? (i := 27) rfl)) ?_)))))))
 refine wl_nil (szB rfl ⟨_, rfl, rfl, le_size (show 20 + 4 ≤ 16777216 by decide), ?_⟩)
 dsimp only [List.set, List.append]
 refine ws_seq (ws_extend (j := 0) (o := q) (ds := [.bl (decide (n0 = "BadPrime")), .bl (decide (n0 = "BadNumber")), .bl (decide (n0 = "BadTimes")), .bl (decide (n0 = "BadNumbers")), .bl (decide (n0 = "BadPoints")), .bl (decide (n0 = "BadTerm")), .bl (decide (n0 = "BadLetter")), .bl (decide (n0 = "BadValues")), .bl (decide (n0 = "BadThing")), .bl (decide (n0 = "BadLetters")), .bl (decide (n0 = "BadCoin")), .bl (decide (n0 = "BadDegree")), .bl (decide (n0 = "BadBeat")), .bl (decide (n0 = "NoBeat")), .bl (decide (n0 = "BadThrown")), .bl (decide (n0 = "BadMessages")), .bl (decide (n0 = "NoSum")), .bl (decide (n0 = "Narrow")), .bl (decide (n0 = "BadTeller")), .bl (decide (n0 = "BadLayer")), .bl (decide (n0 = "BadInputs")), .bl (decide (n0 = "NoLayer")), .bl (decide (n0 = "BadPlace")), .bl (decide (n0 = "BadCells"))]) (fun _ _ _ z => (nomatch z)) (we_var rfl ⟨rfl, ⟨_, rfl⟩, we_lst ?_⟩))
 refine wl_cons (we_cb (wl_cons (we_var rfl (wl_cons (we_ref (wl_nil (rc_isX (T.xt.ec (n0, C) hp) (T.xt.is (n0, C) hp ("BadLook", A.BadLook) (List.mem_of_getElem? (i := 28) rfl)) ?_)))))))
 refine wl_cons (we_cb (wl_cons (we_var rfl (wl_cons (we_ref (wl_nil (rc_isX (T.xt.ec (n0, C) hp) (T.xt.is (n0, C) hp ("BadSame", A.BadSame) (List.mem_of_getElem? (i := 29) rfl)) ?_)))))))
 refine wl_cons (we_cb (wl_cons (we_var rfl (wl_cons (we_ref (wl_nil (rc_isX (T.xt.ec (n0, C) hp) (T.xt.is (n0, C) hp ("BadLast", A.BadLast) (List.mem_of_getElem? (i := 30) rfl)) ?_)))))))
 refine wl_cons (we_cb (wl_cons (we_var rfl (wl_cons (we_ref (wl_nil (rc_isX (T.xt.ec (n0, C) hp) (T.xt.is (n0, C) hp ("BadShare", A.BadShare) (List.mem_of_getElem? (i := 31) rfl)) ?_)))))))
 refine wl_nil (szB rfl ⟨_, rfl, rfl, le_size (show 24 + 4 ≤ 16777216 by decide), ?_⟩)
 dsimp only [List.set, List.append]
 refine ws_seq (ws_extend (j := 0) (o := q) (ds := [.bl (decide (n0 = "BadPrime")), .bl (decide (n0 = "BadNumber")), .bl (decide (n0 = "BadTimes")), .bl (decide (n0 = "BadNumbers")), .bl (decide (n0 = "BadPoints")), .bl (decide (n0 = "BadTerm")), .bl (decide (n0 = "BadLetter")), .bl (decide (n0 = "BadValues")), .bl (decide (n0 = "BadThing")), .bl (decide (n0 = "BadLetters")), .bl (decide (n0 = "BadCoin")), .bl (decide (n0 = "BadDegree")), .bl (decide (n0 = "BadBeat")), .bl (decide (n0 = "NoBeat")), .bl (decide (n0 = "BadThrown")), .bl (decide (n0 = "BadMessages")), .bl (decide (n0 = "NoSum")), .bl (decide (n0 = "Narrow")), .bl (decide (n0 = "BadTeller")), .bl (decide (n0 = "BadLayer")), .bl (decide (n0 = "BadInputs")), .bl (decide (n0 = "NoLayer")), .bl (decide (n0 = "BadPlace")), .bl (decide (n0 = "BadCells")), .bl (decide (n0 = "BadLook")), .bl (decide (n0 = "BadSame")), .bl (decide (n0 = "BadLast")), .bl (decide (n0 = "BadShare"))]) (fun _ _ _ z => (nomatch z)) (we_var rfl ⟨rfl, ⟨_, rfl⟩, we_lst ?_⟩))
 refine wl_cons (we_cb (wl_cons (we_var rfl (wl_cons (we_ref (wl_nil (rc_isX (T.xt.ec (n0, C) hp) (T.xt.is (n0, C) hp ("NotCoin", A.NotCoin) (List.mem_of_getElem? (i := 32) rfl)) ?_)))))))
 refine wl_cons (we_cb (wl_cons (we_var rfl (wl_cons (we_ref (wl_nil (rc_isX (T.xt.ec (n0, C) hp) (T.xt.is (n0, C) hp ("BadText", A.BadText) (List.mem_of_getElem? (i := 34) rfl)) ?_)))))))
 refine wl_cons (we_cb (wl_cons (we_var rfl (wl_cons (we_ref (wl_nil (rc_isX (T.xt.ec (n0, C) hp) (T.xt.is (n0, C) hp ("NoInverse", A.NoInverse) (List.mem_of_getElem? (i := 2) rfl)) ?_)))))))
 refine wl_nil (szB rfl ⟨_, rfl, rfl, le_size (show 28 + 3 ≤ 16777216 by decide), ?_⟩)
 dsimp only [List.set, List.append]
 refine ws_seq (ws_extend (j := 0) (o := q) (ds := [.bl (decide (n0 = "BadPrime")), .bl (decide (n0 = "BadNumber")), .bl (decide (n0 = "BadTimes")), .bl (decide (n0 = "BadNumbers")), .bl (decide (n0 = "BadPoints")), .bl (decide (n0 = "BadTerm")), .bl (decide (n0 = "BadLetter")), .bl (decide (n0 = "BadValues")), .bl (decide (n0 = "BadThing")), .bl (decide (n0 = "BadLetters")), .bl (decide (n0 = "BadCoin")), .bl (decide (n0 = "BadDegree")), .bl (decide (n0 = "BadBeat")), .bl (decide (n0 = "NoBeat")), .bl (decide (n0 = "BadThrown")), .bl (decide (n0 = "BadMessages")), .bl (decide (n0 = "NoSum")), .bl (decide (n0 = "Narrow")), .bl (decide (n0 = "BadTeller")), .bl (decide (n0 = "BadLayer")), .bl (decide (n0 = "BadInputs")), .bl (decide (n0 = "NoLayer")), .bl (decide (n0 = "BadPlace")), .bl (decide (n0 = "BadCells")), .bl (decide (n0 = "BadLook")), .bl (decide (n0 = "BadSame")), .bl (decide (n0 = "BadLast")), .bl (decide (n0 = "BadShare")), .bl (decide (n0 = "NotCoin")), .bl (decide (n0 = "BadText")), .bl (decide (n0 = "NoInverse"))]) (fun _ _ _ z => (nomatch z)) (we_var rfl ⟨rfl, ⟨_, rfl⟩, we_lst ?_⟩))
 refine wl_cons (we_cb (wl_cons (we_var rfl (wl_cons (we_ref (wl_nil (rc_isX (T.xt.ec (n0, C) hp) (T.xt.is (n0, C) hp ("UnlikePrimes", A.UnlikePrimes) (List.mem_of_getElem? (i := 5) rfl)) ?_)))))))
 refine wl_cons (we_cb (wl_cons (we_var rfl (wl_cons (we_ref (wl_nil (rc_isX (T.xt.ec (n0, C) hp) (T.xt.is (n0, C) hp ("NoPoly", A.NoPoly) (List.mem_of_getElem? (i := 14) rfl)) ?_)))))))
 refine wl_cons (we_cb (wl_cons (we_var rfl (wl_cons (we_ref (wl_nil (rc_isX (T.xt.ec (n0, C) hp) (T.xt.is (n0, C) hp ("NotNow", A.NotNow) (List.mem_of_getElem? (i := 33) rfl)) ?_)))))))
 refine wl_nil (szB rfl ⟨_, rfl, rfl, le_size (show 31 + 3 ≤ 16777216 by decide), ?_⟩)
 dsimp only [List.set, List.append]
 refine ws_freeze (i := 1) (j := 0) rfl rfl rfl ?_
 dsimp only [List.set, List.eraseIdx]
 refine ws_ret (we_op (we_var rfl (we_lst ?_)))
 refine wl_cons (we_cb (wl_cons (we_var rfl (wl_cons (we_ref (wl_nil (rc_isX (T.xt.ec (n0, C) hp) (T.xt.is (n0, C) hp ("BadGate", A.BadGate) (List.mem_of_getElem? (i := 24) rfl)) ?_)))))))
 exact wl_nil (szB rfl (rd_add_lst (le_size (show 34 + 1 ≤ 16777216 by decide)) ⟨rfl, rfl⟩))
end
end K19
set_option Elab.async false
set_option linter.all false
set_option maxRecDepth 100000
set_option maxHeartbeats 4000000
namespace K19
open PySem PySem.Spec PyProof.Rows L2 DL
section
variable {P : Program} {w : World} {K : PySem.W.Frag} {mg : Str → Option Value} {base : Heap} {A : Ad}
local macro_rules | `(tactic| walk_at "s0") => `(tactic| with_reducible first
 | refine ws_seq ?_ | refine ws_next ?_ | refine ws_ret ?_ | refine ws_retN ?_ | refine ws_if ?_ | refine ws_asg ?_ | refine ws_drop ?_ | refine ws_par ?_ | refine ws_break ?_ | refine ws_cont ?_
 | refine we_var rfl ?_ | refine we_int ?_ | refine we_non ?_ | refine we_bl ?_ | refine we_str ?_ | refine we_ty ?_ | refine we_dnew ?_ | refine we_op ?_ | refine we_un ?_
 | refine we_and ?_ | refine we_or ?_ | refine we_not ?_ | refine we_if ?_ | refine we_chain ?_ | refine we_cb ?_ | refine we_tup ?_ | refine we_lst ?_
 | refine wl_cons ?_ | refine wl_nil ?_ | refine wt_B ?_ | refine wt_test ?_ | refine wt_and ?_ | refine wt_or ?_ | refine wt_not ?_ | refine wt_yes ?_
 | refine wi_tup ?_ | refine wi_list ?_ | refine wg_tup rfl ?_ | refine wgs_cons ?_ | refine wgs_nil ?_
 | refine rd_add_int ?_ | refine rd_sub ?_ | refine rd_lt ?_ | refine rd_le ?_ | refine rd_gt ?_ | refine rd_ge ?_ | refine rd_eq_int ?_ | refine rd_ne_int ?_ | refine rd_eq_str ?_ | refine rd_ne_str ?_ | refine rd_eq_bl ?_ | refine rd_ne_bl ?_ | refine rd_is ?_ | refine rd_is_bl ?_ | refine rd_isnot ?_ | refine ru_neg ?_
 | refine rc_int ?_ | refine rc_abs ?_ | refine rc_anyF ?_ | refine rc_allF ?_
 | refine brT ?_ | refine brF ?_ | refine brT' ?_ | refine brF' ?_
 | refine ⟨_, rfl, ?_⟩)
set_option hygiene false in
local macro_rules | `(tactic| walk_at "s1") => `(tactic| first
 | refine we_isiLT ?_ | refine we_isiILT ?_ | refine wi_seqV (by rfl) (by rfl) ?_ | walk_at "s0" | refine ⟨true, by rfl, ?_⟩ | refine ⟨false, by rfl, ?_⟩ | refine we_ref ?_ | refine we_fld1 ?_ | refine rc_isiB (r := true) (by rfl) ?_ | refine we_callF (by assumption) ?_ | refine we_callF xok0 ?_ | refine we_callFl (by assumption) ?_ | refine we_callFl xok0 ?_ | refine we_makeFl (by assumption) ?_ | refine we_makeFl xok0 ?_ | refine we_makeF (by assumption) ?_ | refine we_makeF xok0 ?_ | refine DX.ws_rs (by assumption) ?_ | refine wt_test ?_ | refine co_ret rfl (by rfl) ?_ | refine wg_nm (by rfl) ?_ | refine parB (by rfl) (by rfl) ?_ | refine szB (by rfl) ?_ | refine szL (by rfl) ?_ | refine brT2 (by rfl) ?_ | refine brF2 (by rfl) ?_ | refine brT3 (by rfl) ?_ | refine brF3 (by rfl) ?_ | refine rc_isiB (r := false) (by rfl) ?_)
set_option pp.maxSteps 300
def errsAll (K : PySem.W.Frag) (A : Ad) (x y : D) : List D := errsX K A x ++ [exD K A.NoInverse [] [], exD K A.UnlikePrimes [] [], exD K A.NoPoly [] [], exD K A.NotNow [] []] ++ [exD K A.BadGate ["layer", "index"] [x, y]]
theorem errs_at {K : PySem.W.Frag} {A : Ad} {x y d : D} {j : Nat} (h : (errsAll K A x y)[j]? = some d) : j < 35 ∧ ∃ C ns fs, ((clsN.getD j "" : Str), C) ∈ xTab A ∧ d = exD K C ns fs := by
 have hj : j < 35 := (List.getElem?_eq_some_iff.mp h).1
 refine ⟨hj, ?_⟩
 have hc : j = 0 ∨ j = 1 ∨ j = 2 ∨ j = 3 ∨ j = 4 ∨ j = 5 ∨ j = 6 ∨ j = 7 ∨ j = 8 ∨ j = 9 ∨ j = 10 ∨ j = 11 ∨ j = 12 ∨ j = 13 ∨ j = 14 ∨ j = 15 ∨ j = 16 ∨ j = 17 ∨ j = 18 ∨ j = 19 ∨ j = 20 ∨ j = 21 ∨ j = 22 ∨ j = 23 ∨ j = 24 ∨ j = 25 ∨ j = 26 ∨ j = 27 ∨ j = 28 ∨ j = 29 ∨ j = 30 ∨ j = 31 ∨ j = 32 ∨ j = 33 ∨ j = 34 := by omega
 rcases hc with rfl | rfl | rfl | rfl | rfl | rfl | rfl | rfl | rfl | rfl | rfl | rfl | rfl | rfl | rfl | rfl | rfl | rfl | rfl | rfl | rfl | rfl | rfl | rfl | rfl | rfl | rfl | rfl | rfl | rfl | rfl | rfl | rfl | rfl | rfl
 ·cases h; exact ⟨A.BadPrime, _, _, List.mem_of_getElem? (i := 0) rfl, rfl⟩
 ·cases h; exact ⟨A.BadNumber, _, _, List.mem_of_getElem? (i := 1) rfl, rfl⟩
 ·cases h; exact ⟨A.BadTimes, _, _, List.mem_of_getElem? (i := 3) rfl, rfl⟩
 ·cases h; exact ⟨A.BadNumbers, _, _, List.mem_of_getElem? (i := 4) rfl, rfl⟩
 ·cases h; exact ⟨A.BadPoints, _, _, List.mem_of_getElem? (i := 6) rfl, rfl⟩
 ·cases h; exact ⟨A.BadTerm, _, _, List.mem_of_getElem? (i := 7) rfl, rfl⟩
 ·cases h; exact ⟨A.BadLetter, _, _, List.mem_of_getElem? (i := 8) rfl, rfl⟩
 ·cases h; exact ⟨A.BadValues, _, _, List.mem_of_getElem? (i := 9) rfl, rfl⟩
 ·cases h; exact ⟨A.BadThing, _, _, List.mem_of_getElem? (i := 10) rfl, rfl⟩
 ·cases h; exact ⟨A.BadLetters, _, _, List.mem_of_getElem? (i := 11) rfl, rfl⟩
 ·cases h; exact ⟨A.BadCoin, _, _, List.mem_of_getElem? (i := 12) rfl, rfl⟩
 ·cases h; exact ⟨A.BadDegree, _, _, List.mem_of_getElem? (i := 13) rfl, rfl⟩
 ·cases h; exact ⟨A.BadBeat, _, _, List.mem_of_getElem? (i := 15) rfl, rfl⟩
 ·cases h; exact ⟨A.NoBeat, _, _, List.mem_of_getElem? (i := 16) rfl, rfl⟩
 ·cases h; exact ⟨A.BadThrown, _, _, List.mem_of_getElem? (i := 17) rfl, rfl⟩
 ·cases h; exact ⟨A.BadMessages, _, _, List.mem_of_getElem? (i := 18) rfl, rfl⟩
 ·cases h; exact ⟨A.NoSum, _, _, List.mem_of_getElem? (i := 19) rfl, rfl⟩
 ·cases h; exact ⟨A.Narrow, _, _, List.mem_of_getElem? (i := 20) rfl, rfl⟩
 ·cases h; exact ⟨A.BadTeller, _, _, List.mem_of_getElem? (i := 21) rfl, rfl⟩
 ·cases h; exact ⟨A.BadLayer, _, _, List.mem_of_getElem? (i := 22) rfl, rfl⟩
 ·cases h; exact ⟨A.BadInputs, _, _, List.mem_of_getElem? (i := 23) rfl, rfl⟩
 ·cases h; exact ⟨A.NoLayer, _, _, List.mem_of_getElem? (i := 25) rfl, rfl⟩
 ·cases h; exact ⟨A.BadPlace, _, _, List.mem_of_getElem? (i := 26) rfl, rfl⟩
 ·cases h; exact ⟨A.BadCells, _, _, List.mem_of_getElem? (i := 27) rfl, rfl⟩
 ·cases h; exact ⟨A.BadLook, _, _, List.mem_of_getElem? (i := 28) rfl, rfl⟩
 ·cases h; exact ⟨A.BadSame, _, _, List.mem_of_getElem? (i := 29) rfl, rfl⟩
 ·cases h; exact ⟨A.BadLast, _, _, List.mem_of_getElem? (i := 30) rfl, rfl⟩
 ·cases h; exact ⟨A.BadShare, _, _, List.mem_of_getElem? (i := 31) rfl, rfl⟩
 ·cases h; exact ⟨A.NotCoin, _, _, List.mem_of_getElem? (i := 32) rfl, rfl⟩
 ·cases h; exact ⟨A.BadText, _, _, List.mem_of_getElem? (i := 34) rfl, rfl⟩
 ·cases h; exact ⟨A.NoInverse, _, _, List.mem_of_getElem? (i := 2) rfl, rfl⟩
 ·cases h; exact ⟨A.UnlikePrimes, _, _, List.mem_of_getElem? (i := 5) rfl, rfl⟩
 ·cases h; exact ⟨A.NoPoly, _, _, List.mem_of_getElem? (i := 14) rfl, rfl⟩
 ·cases h; exact ⟨A.NotNow, _, _, List.mem_of_getElem? (i := 33) rfl, rfl⟩
 ·cases h; exact ⟨A.BadGate, _, _, List.mem_of_getElem? (i := 24) rfl, rfl⟩
theorem cls_tab : ∀ j < 35, (clsN.map fun c => decide ((clsN.getD j "" : Str) = c)) = (List.range 35).map fun k => decide (((k : Nat) : Int) = (j : Int)) := by decide +kernel
end
end K19
set_option Elab.async false
set_option linter.all false
set_option maxRecDepth 100000
set_option maxHeartbeats 4000000
namespace K19
open PySem PySem.Spec PyProof.Rows L2 DL
section
variable {P : Program} {w : World} {K : PySem.W.Frag} {mg : Str → Option Value} {base : Heap} {A : Ad}
local macro_rules | `(tactic| walk_at "s0") => `(tactic| with_reducible first
 | refine ws_seq ?_ | refine ws_next ?_ | refine ws_ret ?_ | refine ws_retN ?_ | refine ws_if ?_ | refine ws_asg ?_ | refine ws_drop ?_ | refine ws_par ?_ | refine ws_break ?_ | refine ws_cont ?_
 | refine we_var rfl ?_ | refine we_int ?_ | refine we_non ?_ | refine we_bl ?_ | refine we_str ?_ | refine we_ty ?_ | refine we_dnew ?_ | refine we_op ?_ | refine we_un ?_
 | refine we_and ?_ | refine we_or ?_ | refine we_not ?_ | refine we_if ?_ | refine we_chain ?_ | refine we_cb ?_ | refine we_tup ?_ | refine we_lst ?_
 | refine wl_cons ?_ | refine wl_nil ?_ | refine wt_B ?_ | refine wt_test ?_ | refine wt_and ?_ | refine wt_or ?_ | refine wt_not ?_ | refine wt_yes ?_
 | refine wi_tup ?_ | refine wi_list ?_ | refine wg_tup rfl ?_ | refine wgs_cons ?_ | refine wgs_nil ?_
 | refine rd_add_int ?_ | refine rd_sub ?_ | refine rd_lt ?_ | refine rd_le ?_ | refine rd_gt ?_ | refine rd_ge ?_ | refine rd_eq_int ?_ | refine rd_ne_int ?_ | refine rd_eq_str ?_ | refine rd_ne_str ?_ | refine rd_eq_bl ?_ | refine rd_ne_bl ?_ | refine rd_is ?_ | refine rd_is_bl ?_ | refine rd_isnot ?_ | refine ru_neg ?_
 | refine rc_int ?_ | refine rc_abs ?_ | refine rc_anyF ?_ | refine rc_allF ?_
 | refine brT ?_ | refine brF ?_ | refine brT' ?_ | refine brF' ?_
 | refine ⟨_, rfl, ?_⟩)
set_option hygiene false in
local macro_rules | `(tactic| walk_at "s1") => `(tactic| first
 | refine we_isiLT ?_ | refine we_isiILT ?_ | refine wi_seqV (by rfl) (by rfl) ?_ | walk_at "s0" | refine ⟨true, by rfl, ?_⟩ | refine ⟨false, by rfl, ?_⟩ | refine we_ref ?_ | refine we_fld1 ?_ | refine rc_isiB (r := true) (by rfl) ?_ | refine we_callF (by assumption) ?_ | refine we_callF xok0 ?_ | refine we_callFl (by assumption) ?_ | refine we_callFl xok0 ?_ | refine we_makeFl (by assumption) ?_ | refine we_makeFl xok0 ?_ | refine we_makeF (by assumption) ?_ | refine we_makeF xok0 ?_ | refine DX.ws_rs (by assumption) ?_ | refine wt_test ?_ | refine co_ret rfl (by rfl) ?_ | refine wg_nm (by rfl) ?_ | refine parB (by rfl) (by rfl) ?_ | refine szB (by rfl) ?_ | refine szL (by rfl) ?_ | refine brT2 (by rfl) ?_ | refine brF2 (by rfl) ?_ | refine brT3 (by rfl) ?_ | refine brF3 (by rfl) ?_ | refine rc_isiB (r := false) (by rfl) ?_)
theorem ok_start (T : Tx P K mg A) : CalX P w K mg base 1 "_law_start" (spStart K) := by
 obtain ⟨a, fd, F, m, bi⟩ := T.f__law_start
 refine ⟨a, fd, _, F.okX sc__law_start (fun vs H Q E h => ?_) (fun cdv A' outer sh H vs Q E hr h => ⟨_, (pss_one (ps_ret (pe_lst (pa_cons (pe_callTy (DK.lst (K := K)) (by rfl) T.z_list (by decide +kernel) (pa_cons (pv 0) pa_nil)) (pa_cons pe_int (pa_cons pe_int (pa_cons pe_int pa_nil))))))), ?_⟩), m, F.kp, bi⟩
 ·obtain ⟨a, ns, rfl, _⟩ := h
  rfl
 ·obtain ⟨a, ns, rfl, hs, q⟩ := h
  refine ⟨_, rfl, a, _, rfl, .inl hs, fun l hl => ⟨by rw [sizeLine_eq]; show 4 ≤ _; omega, fun s hs => ?_⟩⟩
  have ne : l ≠ s := fun e => by rw [← e, upd_same] at hs; cases hs
  rw [upd_ne (Ne.symm ne)] at hs
  exact q l s hl hs ne
local macro_rules | `(tactic| walk_at "d1") => `(tactic| first
 | refine we_s0 (by rfl) (by rfl) ?_ | refine we_s1 (by rfl) (by rfl) ?_ | refine we_s2 (by rfl) (by rfl) ?_ | refine we_s3 (by rfl) (by rfl) ?_
 | refine wg_s1 (fun _ _ _ _ z => z) (by rfl) (by rfl) ?_ | refine wg_s2 (fun _ _ _ _ z => z) (by rfl) (by rfl) ?_ | refine wg_s3 (fun _ _ _ _ z => z) (by rfl) (by rfl) ?_ | walk_at "s1")
theorem ok_draw (T : Tx P K mg A) : CalX P w K mg base 1 "_law_draw" (SpS K 2 (drawSpc (fun as b => ∃ n : Int, as = [.int n] ∧ 0 < n ∧ n ≤ 1000000 ∧ b ≤ 1000000000000) (fun as b d b' => ∃ n x : Int, as = [.int n] ∧ d = .int x ∧ 0 ≤ x ∧ x < n ∧ b' = b + 1))) := by
 obtain ⟨a, fd, F, m, bi⟩ := T.f__law_draw
 refine ⟨a, fd, _, fn_strm F sc__law_draw rfl (fun cdv A' outer sh H E hr => ⟨_, (pss_cons (ps_asg (pe_op (DK.op_add (K := K)) (pe_ix (DK.ix (K := K)) (pv 0) pe_int (fun _ _ => rfl)) pe_int) (pg_sub (pv 0) pe_int set_list))
 (pss_cons (ps_if (PW.pt (pw_and (pt_cmpR (DK.op_eq (K := K) (hr.units)) (pe_ix (DK.ix (K := K)) (pv 0) pe_int (fun _ _ => rfl)) pe_int (nomark _)) (pw_and1 (pt_cmpR (DK.op_ne (K := K) (hr.units)) (pe_ix (DK.ix (K := K)) (pv 0) pe_int (fun _ _ => rfl)) (pe_lst pa_nil) (nomark _)))))
 (pss_cons (ps_asg (pe_bm PySem.F.plainAttrs_list PySem.F.slot_list_pop PySem.F.type_list_pop mt_popAt (pe_ix (DK.ix (K := K)) (pv 0) pe_int (fun _ _ => rfl)) (pa_cons pe_int pa_nil)) (pg_name (i := 3) sc__law_draw.nd rfl (by first | exact .inl rfl | exact .inr rfl)))
 (pss_cons (ps_asg (pe_op op_modK (pe_callTy call_intK (by rfl) T.z_int (by decide +kernel) (pa_cons (pe_op (DK.op_add (K := K)) (pe_op (DK.op_add (K := K)) (pe_op op_mulK (pe_ix (DK.ix (K := K)) (pv 0) pe_int (fun _ _ => rfl)) pe_int) (pv 3)) pe_int) pa_nil)) pe_int) (pg_sub (pv 0) pe_int set_list))
 (pss_one (ps_asg (pe_ifExp (pt_cmpR op_geK (pv 3) (pe_op op_powK pe_int pe_int) (nomark _)) (pv 3) pe_int) (pg_sub (pv 0) pe_int set_list)))))
 pss_nil)
 (pss_cons (ps_if (pt_cmpR op_gtK (pe_ix (DK.ix (K := K)) (pv 0) pe_int (fun _ _ => rfl)) pe_int (nomark _))
 (pss_cons (ps_asg (pe_op op_modK (pe_callTy call_intK (by rfl) T.z_int (by decide +kernel) (pa_cons (pe_ix (DK.ix (K := K)) (pv 0) pe_int (fun _ _ => rfl)) pa_nil)) (pv 1)) (pg_name (i := 4) sc__law_draw.nd rfl (by first | exact .inl rfl | exact .inr rfl)))
 (pss_cons (ps_asg (pe_op op_divK (pe_ix (DK.ix (K := K)) (pv 0) pe_int (fun _ _ => rfl)) (pv 1)) (pg_sub (pv 0) pe_int set_list))
 (pss_one (ps_ret (pv 4)))))
 pss_nil)
 (pss_cons (ps_asg (pe_op op_modK (pe_callTy call_intK (by rfl) T.z_int (by decide +kernel) (pa_cons (pe_op op_powK (pe_op (DK.op_add (K := K)) (pe_op (DK.op_add (K := K)) (pe_ix (DK.ix (K := K)) (pv 0) pe_int (fun _ _ => rfl)) (pe_op op_mulK pe_int (pe_ix (DK.ix (K := K)) (pv 0) pe_int (fun _ _ => rfl)))) pe_int) pe_int) pa_nil)) pe_int) (pg_name (i := 2) sc__law_draw.nd rfl (by first | exact .inl rfl | exact .inr rfl)))
 (pss_one (ps_ret (pe_op op_modK (pe_op op_modK (pe_callTy call_intK (by rfl) T.z_int (by decide +kernel) (pa_cons (pe_op op_powK (pe_op (DK.op_add (K := K)) (pe_op (DK.op_add (K := K)) (pe_op op_mulK (pv 2) pe_int) (pe_op op_mulK pe_int (pe_ix (DK.ix (K := K)) (pv 0) pe_int (fun _ _ => rfl)))) pe_int) pe_int) pa_nil)) pe_int) (pv 1)))))))), fun a l k0 as b cells x nn m hp hl n1 n2 m1 m2 => ?_⟩), m, F.kp, bi⟩
 obtain ⟨n, rfl, hn1, hn2, hb⟩ := hp
 repeat (walk_at "d1")
 have rest : ∀ (cells' : List Int) (x' m' : Int) (cl : Option D), 0 ≤ m' → m' < 2147483647 →
   WS ⟨K, wres a l, k0, H, false, fun _ => none⟩ (tSeq (tIfS (tTest (tOp rGtK (tOp (rIxK K) (tVar 0) (tC (V.int 1))) (tC (V.int 0))))
                     (tSeq
                       (tAsg (tOp rModK (tCB rIntK (tCons (tOp (rIxK K) (tVar 0) (tC (V.int 1))) tNil)) (tVar 1))
                         (gName 4))
                       (tSeq
                         (tAsg (tOp rDivK (tOp (rIxK K) (tVar 0) (tC (V.int 1))) (tVar 1))
                           (gSub (tVar 0) (tC (V.int 1)) rSetL))
                         (tRet (tVar 4))))
                     tNext)
                   (tSeq
                     (tAsg
                       (tOp rModK
                         (tCB rIntK
                           (tCons
                             (tOp rPowK
                               (tOp (rAddK K)
                                 (tOp (rAddK K) (tOp (rIxK K) (tVar 0) (tC (V.int 3)))
                                   (tOp rMulK (tC (V.int 7919)) (tOp (rIxK K) (tVar 0) (tC (V.int 2)))))
                                 (tC (V.int 104729)))
                               (tC (V.int 5)))
                             tNil))
                         (tC (V.int 2147483629)))
                       (gName 2))
                     (tRet
                       (tOp rModK
                         (tOp rModK
                           (tCB rIntK
                             (tCons
                               (tOp rPowK
                                 (tOp (rAddK K)
                                   (tOp (rAddK K) (tOp rMulK (tVar 2) (tC (V.int 48271)))
                                     (tOp rMulK (tC (V.int 30011)) (tOp (rIxK K) (tVar 0) (tC (V.int 2)))))
                                   (tC (V.int 29)))
                                 (tC (V.int 3)))
                               tNil))
                           (tC (V.int 1000000007)))
                         (tVar 1)))))
    { δ := [some (.ref a), some (.int n), none, cl, none], m := StM a l cells' x' (nn + 1) m', b := 0 }
    { nx := fun _ => False, rt := fun d ς => ∃ cells' x' n' m' b', ς.m = StM a l cells' x' n' m' ∧ 0 ≤ n' ∧ n' ≤ (b' : Nat) ∧ 0 ≤ m' ∧ m' < 2147483647 ∧ (∃ n_1 x : Int, [D.int n] = [.int n_1] ∧ d = .int x ∧ 0 ≤ x ∧ x < n_1 ∧ b' = b + 1) } := fun cells' x' m' cl q1 q2 => by
  repeat (walk_at "d1")
  have lg : n.natAbs.log2 < 9000 := Nat.lt_trans ((Nat.log2_lt (k := 20) (by omega)).mpr (by omega)) (by decide)
  refine brD (fun h => ?_) (fun h => ?_)
  ·repeat (walk_at "d1")
   refine rd_mod hn1 ?_
   repeat (walk_at "d1")
   refine rd_div ⟨hn1, lg⟩ ?_
   repeat (walk_at "d1")
   exact ⟨cells', x' / n, nn + 1, m', b + 1, rfl, by omega, by omega, q1, q2, n, x' % n, rfl, rfl, Int.emod_nonneg _ (by omega), Int.emod_lt_of_pos _ hn1, rfl⟩
  ·repeat (walk_at "d1")
   refine rd_mul (mul_small (by omega) (by omega)) ?_
   repeat (walk_at "d1")
   refine rd_pow ⟨by omega, by omega, by omega⟩ ?_
   repeat (walk_at "d1")
   refine rd_mod (by omega) ?_
   have y1 : 0 ≤ (m' + 7919 * (nn + 1) + 104729) ^ (5 : Int).toNat % 2147483629 := Int.emod_nonneg _ (by omega)
   have y2 : (m' + 7919 * (nn + 1) + 104729) ^ (5 : Int).toNat % 2147483629 < 2147483629 := Int.emod_lt_of_pos _ (by omega)
   generalize (m' + 7919 * (nn + 1) + 104729) ^ (5 : Int).toNat % 2147483629 = y at y1 y2
   repeat (walk_at "d1")
   refine rd_mul (mul_small (by omega) (by omega)) ?_
   repeat (walk_at "d1")
   refine rd_mul (mul_small (by omega) (by omega)) ?_
   repeat (walk_at "d1")
   refine rd_pow ⟨by omega, by omega, by omega⟩ ?_
   repeat (walk_at "d1")
   refine rd_mod (by omega) ?_
   repeat (walk_at "d1")
   refine rd_mod hn1 ?_
   exact ⟨cells', x', nn + 1, m', b + 1, rfl, by omega, by omega, q1, q2, n, _, rfl, rfl, Int.emod_nonneg _ (by omega), Int.emod_lt_of_pos _ hn1, rfl⟩
 refine brD (fun hx => ?_) (fun hx => ?_)
 ·refine wt_test ?_
  refine we_sne (l := l) (cells := cells) ?_
  repeat (walk_at "d1")
  refine ⟨rfl, rfl, ?_⟩
  repeat (walk_at "d1")
  cases cells with
  | nil =>
   repeat first | exact rest [] x m none m1 m2 | walk_at "d1"
  | cons cc cells =>
   repeat (walk_at "d1")
   refine we_spop (l := l) (cc := cc) (cells := cells) (fun _ _ _ _ z => z) ?_
   repeat (walk_at "d1")
   refine ⟨rfl, rfl, ?_⟩
   repeat (walk_at "d1")
   refine rd_mul (mul_small (by omega) (by omega)) ?_
   repeat (walk_at "d1")
   refine rd_mod (by omega) ?_
   have y1 : 0 ≤ (m * 8191 + cc + 3) % 2147483647 := Int.emod_nonneg _ (by omega)
   have y2 : (m * 8191 + cc + 3) % 2147483647 < 2147483647 := Int.emod_lt_of_pos _ (by omega)
   generalize (m * 8191 + cc + 3) % 2147483647 = y at y1 y2
   repeat (walk_at "d1")
   refine rd_pow ⟨by omega, by omega, by omega⟩ ?_
   repeat (walk_at "d1")
   refine brD (fun hc => ?_) (fun hc => ?_)
   ·repeat first | exact rest cells cc y _ y1 y2 | walk_at "d1"
   ·repeat first | exact rest cells 0 y _ y1 y2 | walk_at "d1"
 ·repeat first | exact rest cells x m none m1 m2 | walk_at "d1"
theorem ok_pick (T : Tx P K mg A) : CalX P w K mg base 2 "_law_pick" (SpS K 2 (drawSpc (fun as b => ∃ l : List D, as = [.lst l] ∧ 0 < l.length ∧ l.length ≤ 1000000 ∧ b ≤ 1000000000000) (fun as b d b' => ∃ l : List D, as = [.lst l] ∧ d ∈ l ∧ b' = b + 1))) := by
 have c__law_draw := @ok_draw P w K mg base A T
 obtain ⟨a, fd, F, m, bi⟩ := T.f__law_pick
 refine ⟨a, fd, _, fnS F sc__law_pick rfl (fun cdv A' outer sh H E hr => ⟨_, (pss_one (ps_ret (pe_ix (DK.ix (K := K)) (pv 1) (pe_cx c__law_draw hr (by omega) (by rfl) (passes_call (takes_of rfl rfl rfl rfl) (fun _ _ _ _ z => z)) (pa_cons (pv 0) (pa_cons (pe_callB (DK.len (K := K)) (by rfl) T.z_len (by decide +kernel) (pa_cons (pv 1) pa_nil)) pa_nil))) (fun _ _ => rfl)))), fun R k0 ds b hp hl hE => ?_⟩), m, F.kp, bi⟩
 obtain ⟨aa, l, as, rfl, rfl, ll, rfl, l1, l2, hb⟩ := hp
 repeat (walk_at "s1")
 refine we_callR (SubR.self rfl) xok0 ?_
 repeat (walk_at "s1")
 refine rc_len (l := ll) rfl ?_
 repeat (walk_at "s1")
 refine ⟨rfl, ⟨aa, l, _, rfl, rfl, ll.length, rfl, by omega, by omega, hb⟩, ?_, fun _ _ _ _ z => z⟩
 rintro d b' ⟨a2, as2, e2, n, x, e3, rfl, x1, x2, rfl⟩
 cases e2
 cases e3
 obtain ⟨i, rfl⟩ := Int.eq_ofNat_of_zero_le x1
 have hi : i < ll.length := by omega
 refine rd_ix (d := ll[i]) rfl (DL.atI_nat (by simp [hi])) ?_
 exact ⟨aa, _, rfl, ll, rfl, List.getElem_mem hi, rfl⟩
end
end K19
set_option Elab.async false
set_option linter.all false
set_option maxRecDepth 100000
set_option maxHeartbeats 4000000
namespace K19
open PySem PySem.Spec PyProof.Rows L2 DL
section
variable {P : Program} {w : World} {K : PySem.W.Frag} {mg : Str → Option Value} {base : Heap} {A : Ad}
local macro_rules | `(tactic| walk_at "s0") => `(tactic| with_reducible first
 | refine ws_seq ?_ | refine ws_next ?_ | refine ws_ret ?_ | refine ws_retN ?_ | refine ws_if ?_ | refine ws_asg ?_ | refine ws_drop ?_ | refine ws_par ?_ | refine ws_break ?_ | refine ws_cont ?_
 | refine we_var rfl ?_ | refine we_int ?_ | refine we_non ?_ | refine we_bl ?_ | refine we_str ?_ | refine we_ty ?_ | refine we_dnew ?_ | refine we_op ?_ | refine we_un ?_
 | refine we_and ?_ | refine we_or ?_ | refine we_not ?_ | refine we_if ?_ | refine we_chain ?_ | refine we_cb ?_ | refine we_tup ?_ | refine we_lst ?_
 | refine wl_cons ?_ | refine wl_nil ?_ | refine wt_B ?_ | refine wt_test ?_ | refine wt_and ?_ | refine wt_or ?_ | refine wt_not ?_ | refine wt_yes ?_
 | refine wi_tup ?_ | refine wi_list ?_ | refine wg_tup rfl ?_ | refine wgs_cons ?_ | refine wgs_nil ?_
 | refine rd_add_int ?_ | refine rd_sub ?_ | refine rd_lt ?_ | refine rd_le ?_ | refine rd_gt ?_ | refine rd_ge ?_ | refine rd_eq_int ?_ | refine rd_ne_int ?_ | refine rd_eq_str ?_ | refine rd_ne_str ?_ | refine rd_eq_bl ?_ | refine rd_ne_bl ?_ | refine rd_is ?_ | refine rd_is_bl ?_ | refine rd_isnot ?_ | refine ru_neg ?_
 | refine rc_int ?_ | refine rc_abs ?_ | refine rc_anyF ?_ | refine rc_allF ?_
 | refine brT ?_ | refine brF ?_ | refine brT' ?_ | refine brF' ?_
 | refine ⟨_, rfl, ?_⟩)
set_option hygiene false in
local macro_rules | `(tactic| walk_at "s1") => `(tactic| first
 | refine we_isiLT ?_ | refine we_isiILT ?_ | refine wi_seqV (by rfl) (by rfl) ?_ | walk_at "s0" | refine ⟨true, by rfl, ?_⟩ | refine ⟨false, by rfl, ?_⟩ | refine we_ref ?_ | refine we_fld1 ?_ | refine rc_isiB (r := true) (by rfl) ?_ | refine we_callF (by assumption) ?_ | refine we_callF xok0 ?_ | refine we_callFl (by assumption) ?_ | refine we_callFl xok0 ?_ | refine we_makeFl (by assumption) ?_ | refine we_makeFl xok0 ?_ | refine we_makeF (by assumption) ?_ | refine we_makeF xok0 ?_ | refine DX.ws_rs (by assumption) ?_ | refine wt_test ?_ | refine co_ret rfl (by rfl) ?_ | refine wg_nm (by rfl) ?_ | refine parB (by rfl) (by rfl) ?_ | refine szB (by rfl) ?_ | refine szL (by rfl) ?_ | refine brT2 (by rfl) ?_ | refine brF2 (by rfl) ?_ | refine brT3 (by rfl) ?_ | refine brF3 (by rfl) ?_ | refine rc_isiB (r := false) (by rfl) ?_)
set_option pp.maxSteps 300
abbrev qL : Str := "law.<locals>.<lambda>"
def spLaw (K : PySem.W.Frag) (A : Ad) : Sp := fun vs H Q _ => ∃ (a : Addr) (ns : List Int), vs = [.ref a] ∧ SqL K H a (ns.map V.int) ∧ H A.tL = some (.tbl #[]) ∧ ∀ H', Q (.bl true) H'
theorem ws_gen {c : Cn} {t : TS} {ς : Sta} {Ψ : Psi} (M : Sta → Prop) (h0 : M ς) (h : ∀ ς', M ς' → WS c t ς' Ψ) : WS c t ς Ψ := h ς h0
theorem we_callSb {sp : Sp} {c : Cn} {ς : Sta} {Φ : D → Sta → Prop} {n : Nat} {s : Spc} {E : XK} {ta : TA} {X : XT} (hs : ∀ vs H Q E, SpS c.K n s vs H Q E → sp vs H Q E) (hE : XOk c E X)
  (h : WL c ta ς fun ds ς1 => ds.length = n ∧ s.pre Res.none ds 0 ∧ (∀ d b, s.post Res.none ds 0 d b → Φ d ς1) ∧ ∀ C ns fs b, s.exc Res.none ds 0 C ns fs b → X C ns fs ς1) : WE c (tCall sp [] E ta) ς Φ := fun σ k hh S Q z =>
 h σ k hh S _ fun vs k1 h1 ds ς1 S1 e1 r1 ⟨l, p1, p2, p3⟩ => by
  refine hs _ _ _ _ ?_
  rw [List.append_nil]
  refine ⟨by rw [r1.length, l], Res.none, k1, ds, 0, r1, S1.kh, trivial, fun a z => z.elim, p1, fun d b q v k' h' g _ r => ?_, fun C ns fs b q dd ws k' h' g _ e r => ?_⟩
  ·exact z v k' h' d ς1 (S1.grow g) (e1.trans g.kk) r (p2 d b q)
  ·exact hE C ns fs dd ws σ k' h' ς1 (S1.grow g) e r (p3 C ns fs b q)
structure OkX (K : PySem.W.Frag) (x : D) : Prop where
 ne : ∀ Φ : D → Prop, Φ (.bl false) → RD K (rNeX K) x x Φ
 ty : (tyN x).isSome = true
 xd : xD x = true
def xsD (t : Int) : List D := [.non, .int 5, .int (-1), .str "a", .lst [.int t], .tup [.int 1, .lst [.int 2]], .dct [.inr "a"] [.int 1], .bl true, .int (10 ^ 30)]
def ysD (t : Int) : List D := [.non, .int 7, .str "b", .lst [.int t], .tup [.int 3]]
theorem py_ok {K : PySem.W.Frag} {x : D} (h : SeqAt.shaped x.toPy = true) (h2 : PyData.eqv x.toPy x.toPy = true) : ∀ Φ : D → Prop, Φ (.bl false) → RD K (rNeX K) x x Φ := fun Φ q => rd_neX_py h h2 q
theorem okx_of {K : PySem.W.Frag} {t : Int} {x : D} (h : x ∈ xsD t) : OkX K x := by
 unfold xsD at h
 simp only [List.mem_cons, List.not_mem_nil, or_false] at h
 rcases h with rfl | rfl | rfl | rfl | rfl | rfl | rfl | rfl | rfl
 ·exact ⟨py_ok (by decide +kernel) (by decide +kernel), rfl, rfl⟩
 ·exact ⟨py_ok (by decide +kernel) (by decide +kernel), rfl, rfl⟩
 ·exact ⟨py_ok (by decide +kernel) (by decide +kernel), rfl, rfl⟩
 ·exact ⟨py_ok (by decide +kernel) (by decide +kernel), rfl, rfl⟩
 ·exact ⟨py_ok rfl (by simp [D.toPy, toPyL, PyData.eqv, PyData.eqvAll]), rfl, rfl⟩
 ·exact ⟨py_ok (by decide +kernel) (by decide +kernel), rfl, rfl⟩
 ·exact ⟨fun Φ q => rd_neX_dct q, rfl, rfl⟩
 ·exact ⟨py_ok (by decide +kernel) (by decide +kernel), rfl, rfl⟩
 ·exact ⟨py_ok (by decide +kernel) (by decide +kernel), rfl, rfl⟩
theorem oky_of {t : Int} {x : D} (h : x ∈ ysD t) : xD x = true := by
 unfold ysD at h
 simp only [List.mem_cons, List.not_mem_nil, or_false] at h
 rcases h with rfl | rfl | rfl | rfl | rfl <;> rfl
def fstD : D → D
 | .tup (e :: _) => e
 | _ => .non
theorem errs_fst {K : PySem.W.Frag} {A : Ad} {x : D} : ((tabF A ++ tabS A).map fun p => prX K p.1 p.2 x).map fstD = errsX K A x := by
 unfold errsX
 rw [List.map_map]
 rfl
def kEq (n : Nat) : D → D
 | .int k => .bl (decide (k = (n : Int)))
 | _ => .non
theorem cls_row {n : Nat} (h : n < 35) : clsD (clsN.getD n "" : Str) = .lst ((rngD 0 35).map (kEq n)) := by
 have e := cls_tab n h
 unfold clsD
 rw [show (rngD 0 35).map (kEq n) = ((List.range 35).map fun k => decide (((k : Nat) : Int) = (n : Int))).map D.bl from rfl, ← e, List.map_map]
 rfl
theorem cls_tw {n : Nat} : ((rngD 0 35).map (kEq n)).all (twD 8) = true := rfl
inductive LS (st : Addr) (B : Nat) : Sta → Prop
 | mk {x0 x2 x3 x4 x5 x6 x7 x8 x9 x10 x11 x12 x13 x14 : Option D} {b : Nat} (h : b ≤ B) : LS st B { δ := [x0, some (.ref st), x2, x3, x4, x5, x6, x7, x8, x9, x10, x11, x12, x13, x14], m := [], b := b }
inductive L1 (st : Addr) (x y p q : D) (B : Nat) : Sta → Prop
 | mk {x0 x2 x5 x6 x9 x10 x11 x12 x13 x14 : Option D} {b : Nat} (h : b ≤ B) : L1 st x y p q B { δ := [x0, some (.ref st), x2, some x, some y, x5, x6, some p, some q, x9, x10, x11, x12, x13, x14], m := [], b := b }
inductive L2 (st : Addr) (x y p q e : D) (B : Nat) : Sta → Prop
 | mk {x0 x2 x5 x6 x10 x11 x12 x13 x14 : Option D} {b : Nat} (h : b ≤ B) : L2 st x y p q e B { δ := [x0, some (.ref st), x2, some x, some y, x5, x6, some p, some q, some e, x10, x11, x12, x13, x14], m := [], b := b }
set_option maxHeartbeats 64000000 in
theorem ok_law (T : Tx P K mg A) (TB : LamX.TabB base mg A.cL A.tL) {a : Addr} {fd : FuncData} (F : Fun K "law" "law" s_law a fd) (m : mg "law" = some (.ref a)) : FnOk P w K mg base (L2.CX P w) 12 a fd ["_law_script"] (spLaw K A) := by
 have c__law_start := @ok_start P w K mg base A T
 have c__law_draw := @ok_draw P w K mg base A T
 have c__law_pick := @ok_pick P w K mg base A T
 have c__law_first := @ok_law_first P w K mg base A T
 have c__law_second := @ok_law_second P w K mg base A T
 have c__law_held := @ok__law_held P w K mg base A T
 have c__law_classes := @ok__law_classes P w K mg base A T
 have XG : XfC K A.BadGate := T.xt.xf ("BadGate", A.BadGate) (List.mem_of_getElem? (i := 24) rfl)
 have N1 : PySem.W.findIn K (.ref A.BadGate) "layer" = some none := T.x_BadGate.elim fun _ t => t.noN _ List.mem_cons_self
 have N2 : PySem.W.findIn K (.ref A.BadGate) "index" = some none := T.x_BadGate.elim fun _ t => t.noN _ (List.mem_cons_of_mem _ List.mem_cons_self)
 obtain ⟨oc, od, kV, doc, pm, an, cdv, ct, osl, rfl, lk, hcd⟩ := F.ex
 refine fn_of lk hcd sc_law (fun vs H Q E h => ?_) (fun A' outer s H vs Q E hr h => ⟨_, (pss_cons (ps_asg (pe_cx c__law_start hr (by omega) (by rfl) (passes_call (takes_of rfl rfl rfl rfl) (fun _ _ _ _ z => z)) (pa_cons (pv 0) pa_nil)) (pg_name (i := 1) sc_law.nd rfl (by first | exact .inl rfl | exact .inr rfl)))
 (pss_cons (ps_for (passes_of rfl) rfl (pi_range1 (by rfl) T.z_range (pa_cons pe_int pa_nil)) (pg_name (i := 2) sc_law.nd rfl (by first | exact .inl rfl | exact .inr rfl))
 (pss_cons (ps_asg (pe_cx c__law_pick hr (by omega) (by rfl) (passes_call (takes_of rfl rfl rfl rfl) (fun _ _ _ _ z => z)) (pa_cons (pv 1) (pa_cons (pe_lst (pa_cons pe_non (pa_cons pe_int (pa_cons (pe_un un_negK pe_int) (pa_cons pe_str (pa_cons (pe_lst (pa_cons (pv 2) pa_nil)) (pa_cons (pe_tup (pa_cons pe_int (pa_cons (pe_lst (pa_cons pe_int pa_nil)) pa_nil))) (pa_cons (pe_disp (pps_cons pe_str pe_int pps_nil) (by rfl) (by rfl) (by simp) (by decide)) (pa_cons pe_bl (pa_cons (pe_op op_powK pe_int pe_int) pa_nil)))))))))) pa_nil))) (pg_name (i := 3) sc_law.nd rfl (by first | exact .inl rfl | exact .inr rfl)))
 (pss_cons (ps_asg (pe_cx c__law_pick hr (by omega) (by rfl) (passes_call (takes_of rfl rfl rfl rfl) (fun _ _ _ _ z => z)) (pa_cons (pv 1) (pa_cons (pe_lst (pa_cons pe_non (pa_cons pe_int (pa_cons pe_str (pa_cons (pe_lst (pa_cons (pv 2) pa_nil)) (pa_cons (pe_tup (pa_cons pe_int pa_nil)) pa_nil)))))) pa_nil))) (pg_name (i := 4) sc_law.nd rfl (by first | exact .inl rfl | exact .inr rfl)))
 (pss_cons (ps_par (by rfl) sc_law.nd (i := 7) (j := 8) rfl rfl (by decide) rfl rfl (pa_cons (pe_op (DK.op_add (K := K)) (pe_cx c__law_first hr (by omega) (by rfl) (passes_call (takes_of rfl rfl rfl rfl) (fun _ _ _ _ z => z)) (pa_cons (pv 3) pa_nil)) (pe_cx c__law_second hr (by omega) (by rfl) (passes_call (takes_of rfl rfl rfl rfl) (fun _ _ _ _ z => z)) (pa_cons (pv 3) pa_nil))) (pa_cons (pe_lst (pa_cons (L2.pe_xv0 T.x_NoInverse hr) (pa_cons (L2.pe_xv0 T.x_UnlikePrimes hr) (pa_cons (L2.pe_xv0 T.x_NoPoly hr) (pa_cons (L2.pe_xv0 T.x_NotNow hr) pa_nil))))) pa_nil)) (by rfl))
 (pss_cons (ps_for (passes_of rfl) rfl (DK.pi_tup (K := K) (pe_tup (pa_cons (L2.pe_xv T.x_BadGate (by decide) (by decide) hr (pa_cons (pv 3) (pa_cons (pv 4) pa_nil))) (pa_cons (L2.pe_xvK T.xk_BadGate (by decide) (by decide) hr (L2.pk_cons (pv 4) (L2.pk_cons (pv 3) L2.pk_nil))) pa_nil)))) (pg_name (i := 5) sc_law.nd rfl (by first | exact .inl rfl | exact .inr rfl))
 (pss_one (ps_if (PW.pt (pw_or (pt_cmpR (DK.op_neV (K := K) (hr.units)) (pe_lst (pa_cons (DK.pe_xvf (K := K) (pv 5)) (pa_cons (DK.pe_xvf (K := K) (pv 5)) pa_nil))) (pe_lst (pa_cons (pv 3) (pa_cons (pv 4) pa_nil))) (nomark _)) (pw_or1 (pt_cmpR (DK.op_ne (K := K) (hr.units)) (pe_callB (DK.isi (K := K)) (by rfl) T.z_isinstance (by decide +kernel) (pa_cons (DK.pe_xvf (K := K) (pv 5)) (pa_cons (pe_tyn (n := "bool") (by rfl) T.z_bool (by decide +kernel)) pa_nil))) (pe_callB (DK.isi (K := K)) (by rfl) T.z_isinstance (by decide +kernel) (pa_cons (pv 3) (pa_cons (pe_tyn (n := "bool") (by rfl) T.z_bool (by decide +kernel)) pa_nil))) (nomark _)))))
 (pss_one (ps_ret pe_bl))
 pss_nil)))
 (pss_one (ps_for (passes_of rfl) rfl (pi_range1 (by rfl) T.z_range (pa_cons pe_int pa_nil)) (pg_name (i := 6) sc_law.nd rfl (by first | exact .inl rfl | exact .inr rfl))
 (pss_cons (ps_setLc (i := 9) (own := [("_law_pair", 12)]) (g := (gName 12)) (tt := tYes) rfl sc_law.nd rfl rfl (sw_true rfl rfl rfl (by decide +kernel)) (DK.pi_seq (K := K) (pv 7)) (blkOk_by (own := [("_law_pair", 12)]) (N := n_law) (sc := (defScope s_law)) (by first | decide +kernel | kernel_rfl)) (fun _ _ _ _ _ => (pg_name (i := 12) sc_law.nd rfl (by first | exact .inl rfl | exact .inr rfl))) (fun _ _ _ _ _ => pts_nil) (fun _ _ _ _ _ => (pe_ix (DK.ix (K := K)) (pv 12) (pv 6) (fun _ _ => rfl))))
 (pss_cons (ps_if (pt_val (pe_callB (DK.any (K := K)) (by rfl) T.z_any (by decide +kernel) (pa_cons (pe_lc (own := [("_law_one", 13)]) (g := (gName 13)) (tt := tYes) rfl sc_law.nd (DK.pi_seq (K := K) (pe_cx c__law_held hr (by omega) (by rfl) (passes_call (takes_of rfl rfl rfl rfl) (fun _ _ _ _ z => z)) (pa_cons (pv 9) pa_nil))) (blkOk_by (own := [("_law_one", 13)]) (N := n_law) (sc := (defScope s_law)) (by first | decide +kernel | kernel_rfl)) (fun _ _ _ _ _ => (pg_name (i := 13) sc_law.nd rfl (by first | exact .inl rfl | exact .inr rfl))) (fun _ _ _ _ _ => pts_nil) (fun _ _ _ _ _ => (pe_or (pe_cmpR (DK.op_neX (K := K) (hr.units)) (pv 13) (pv 3) (nomark _)) (pe_one (pe_cmpR (DK.op_ne (K := K) (hr.units)) (pe_callB (DK.isi (K := K)) (by rfl) T.z_isinstance (by decide +kernel) (pa_cons (pv 13) (pa_cons (pe_tyn (n := "bool") (by rfl) T.z_bool (by decide +kernel)) pa_nil))) (pe_callB (DK.isi (K := K)) (by rfl) T.z_isinstance (by decide +kernel) (pa_cons (pv 3) (pa_cons (pe_tyn (n := "bool") (by rfl) T.z_bool (by decide +kernel)) pa_nil))) (nomark _)))))) pa_nil)))
 (pss_one (ps_ret pe_bl))
 pss_nil)
 (pss_one (ps_for (passes_of rfl) rfl (DK.pi_enum2 (K := K) (by rfl) T.z_enumerate (pa_cons (pe_op (DK.op_add (K := K)) (pe_op (DK.op_add (K := K)) (pv 9) (pv 8)) (pe_lst (pa_cons (L2.pe_xv T.x_BadGate (by decide) (by decide) hr (pa_cons (pv 3) (pa_cons (pv 4) pa_nil))) pa_nil))) pa_nil)) (DK.pg_tup (K := K) rfl (pgs_cons (pg_name (i := 10) sc_law.nd rfl (by first | exact .inl rfl | exact .inr rfl)) (pgs_cons (pg_name (i := 11) sc_law.nd rfl (by first | exact .inl rfl | exact .inr rfl)) pgs_nil)))
 (pss_cons (ps_if (PW.pt (pw_or (pt_not (pt_val (pe_callB (DK.isX (K := K)) (by rfl) T.z_isinstance (by decide +kernel) (pa_cons (pv 11) (pa_cons (pe_glob (v := V.ref _) (by rfl) T.m_TalkError rfl) pa_nil))))) (pw_or1 (pt_not (pt_val (pe_callB (DK.isX (K := K)) (by rfl) T.z_isinstance (by decide +kernel) (pa_cons (pv 11) (pa_cons (pe_tyn (n := "ValueError") (by rfl) T.z_ValueError (by decide +kernel)) pa_nil))))))))
 (pss_one (ps_ret pe_bl))
 pss_nil)
 (pss_one (ps_if (pt_cmpR (DK.op_neTw (K := K) (hr.units)) (pe_cx c__law_classes hr (by omega) (by rfl) (passes_call (takes_of rfl rfl rfl rfl) (fun _ _ _ _ z => z)) (pa_cons (pv 11) pa_nil)) (pe_lc (own := [("_law_k", 14)]) (g := (gName 14)) (tt := tYes) rfl sc_law.nd (pi_range1 (by rfl) T.z_range (pa_cons pe_int pa_nil)) (blkOk_by (own := [("_law_k", 14)]) (N := n_law) (sc := (defScope s_law)) (by first | decide +kernel | kernel_rfl)) (fun _ _ _ _ _ => (pg_name (i := 14) sc_law.nd rfl (by first | exact .inl rfl | exact .inr rfl))) (fun _ _ _ _ _ => pts_nil) (fun _ _ _ _ _ => (pe_cmpR (DK.op_eq (K := K) (hr.units)) (pv 14) (pv 10) (nomark _)))) (nomark _))
 (pss_one (ps_ret pe_bl))
 pss_nil))))))))))))))
 (pss_one (ps_ret pe_bl)))), ?_⟩)
 ·obtain ⟨a, ns, rfl, _⟩ := h
  rfl
 ·obtain ⟨a, ns, rfl, hs, ht, hq⟩ := h
  refine ⟨_, rfl, a, ns, rfl, hs, fun l st hl hst hne => ?_⟩
  have S0 := law_sr (K := K) (q := qL) (ns := ns) hl hst hne ht (law_slots (a := a) (st := st) (N := n_law) (n := 13) rfl).1 (law_slots (a := a) (st := st) (N := n_law) (n := 13) rfl).2
  have SB := strmT_sub (c := lawC K st l A.tL qL (upd (upd H l (.lst (ns.map V.int))) st (.lst [.ref l, .int 0, .int 0, .int 11]))) (a := st) (l := l) (Tb := [(A.tL, qL)]) rfl rfl
  generalize upd (upd H l (.lst (ns.map V.int))) st (.lst [.ref l, .int 0, .int 0, .int 11]) = h0 at S0 SB
  dsimp only [gName]
  refine enter (Ψ := { nx := fun _ => False, rt := fun d _ => d = .bl true }) ?_ S0 ?_
  rotate_left
  ·exact ⟨fun _ _ _ _ _ _ z => z.elim, fun _ _ _ _ _ _ z => z.elim, fun _ _ _ _ _ _ z => z.elim, fun v σ' k' h' d ς' S' e r z => by
    subst z
    cases r
    exact hq h'⟩
  refine ws_cut (LS st 1600) ?_ ?_
  ·refine ws_for (wi_rng1 (wl_cons (we_int (wl_nil ⟨4, rfl, by omega, by omega, ?_⟩))))
   refine ⟨fun i => LS st (400 * i), LS.mk (x0 := none) (Nat.le_refl _), ?_, fun ς z => z⟩
   rintro i d0 ς hi ⟨hb⟩
   obtain ⟨rfl, hi6⟩ := rngD_get hi
   refine wg_nm (by rfl) ?_
   dsimp only [List.set]
   refine ws_seq (ws_asg (we_pick SB (by rfl) (we_lst ?_)))
   repeat (walk_at "s1")
   refine we_disp1C (ky := .inr "a") rfl ?_
   repeat (walk_at "s1")
   refine rd_pow ⟨by decide, by decide, by decide⟩ ?_
   refine wl_nil (szB rfl ⟨xsD (0 + (i : Int)), rfl, by show 0 < 9; decide, by show 9 ≤ 1000000; decide, by first | omega | (dsimp only; omega), fun x hx => ?_⟩)
   have okx := okx_of (K := K) hx
   clear hx
   refine wg_nm (by rfl) ?_
   dsimp only [List.set]
   refine ws_seq (ws_asg (we_pick SB (by rfl) (we_lst ?_)))
   repeat (walk_at "s1")
   refine ⟨by show 0 < 5; decide, by show 5 ≤ 1000000; decide, by first | omega | (dsimp only; omega), fun y hy => ?_⟩
   have oky := oky_of (t := 0 + (i : Int)) hy
   clear hy
   refine wg_nm (by rfl) ?_
   dsimp only [List.set]
   refine ws_seq (ws_par (wl_cons (we_op (we_callF xok0 (wl_cons (we_var rfl (wl_nil (co_ret rfl rfl (we_callF xok0 (wl_cons (we_var rfl (wl_nil (co_ret rfl rfl (rd_add_lst (le_size (show 18 + 12 ≤ 16777216 by decide)) ?_))))))))))))))
   rw [← List.map_append]
   refine wl_cons (we_lst (wl_cons (we_xv (wl_nil ⟨rfl, wl_cons (we_xv (wl_nil ⟨rfl, wl_cons (we_xv (wl_nil ⟨rfl, wl_cons (we_xv (wl_nil ⟨rfl, wl_nil (szB rfl (wl_nil (parB (by rfl) (by rfl) ?_)))⟩))⟩))⟩))⟩))))
   dsimp only [List.set]
   refine ws_gen (L1 st x y (.lst ((tabF A ++ tabS A).map fun p => prX K p.1 p.2 x)) (.lst [exD K A.NoInverse [] [], exD K A.UnlikePrimes [] [], exD K A.NoPoly [] [], exD K A.NotNow [] []]) (400 * i + 2)) (.mk (by first | omega | (dsimp only; omega))) ?_
   clear hb
   rintro ς ⟨hb⟩
   refine ws_cut (L1 st x y (.lst ((tabF A ++ tabS A).map fun p => prX K p.1 p.2 x)) (.lst [exD K A.NoInverse [] [], exD K A.UnlikePrimes [] [], exD K A.NoPoly [] [], exD K A.NotNow [] []]) (400 * i + 2)) ?_ ?_
   ·refine ws_for (wi_tup (we_tup (wl_cons (we_xv (wl_cons (we_var rfl (wl_cons (we_var rfl (wl_nil ⟨rfl, wl_cons (we_xvK (wl_cons (we_var rfl (wl_cons (we_var rfl (wl_nil ⟨rfl, wl_nil (szB rfl ⟨_, rfl, ?_⟩)⟩))))))⟩)))))))))
    refine ⟨fun _ => L1 st x y (.lst ((tabF A ++ tabS A).map fun p => prX K p.1 p.2 x)) (.lst [exD K A.NoInverse [] [], exD K A.UnlikePrimes [] [], exD K A.NoPoly [] [], exD K A.NotNow [] []]) (400 * i + 2), .mk hb, ?_, fun ς z => z⟩
    clear hb
    rintro j d ς hj ⟨hb⟩
    have hd : d = exD K A.BadGate ["layer", "index"] [x, y] := by
     have z := List.mem_of_getElem? hj
     simp only [List.mem_cons, List.not_mem_nil, or_false] at z
     rcases z with rfl | rfl <;> rfl
    subst hd
    refine wg_nm (by rfl) ?_
    dsimp only [List.set]
    refine ws_if (wt_or (wt_test (we_op (we_lst (wl_cons (we_xvf (we_var rfl ⟨_, _, _, x, rfl, XG, N1, rfl, wl_cons (we_xvf (we_var rfl ⟨_, _, _, y, rfl, XG, N2, rfl, wl_nil (szB rfl (we_lst (wl_cons (we_var rfl (wl_cons (we_var rfl (wl_nil (szB rfl (rd_neV (by rw [List.all_cons, List.all_cons, okx.xd, oky]; rfl) ?_)))))))))⟩))⟩)))))))
    refine ⟨_, rfl, fun _ => ?_, fun z => (nomatch z)⟩
    refine wt_test (we_op (we_cb (wl_cons (we_xvf (we_var rfl ⟨_, _, _, x, rfl, XG, N1, rfl, wl_cons (we_ty (wl_nil (rc_isiS okx.ty (by decide) (we_cb (wl_cons (we_var rfl (wl_cons (we_ty (wl_nil (rc_isiS okx.ty (by decide) ?_))))))))))⟩)))))
    generalize isB (tyS x) "bool" = bb
    refine rd_ne_py rfl rfl ?_
    cases bb <;> exact ⟨_, rfl, fun z => (nomatch z), fun _ => ws_next (.mk hb)⟩
   clear hb
   rintro ς ⟨hb⟩
   refine ws_for (wi_rng1 (wl_cons (we_int (wl_nil ⟨2, rfl, by omega, by omega, ?_⟩))))
   refine ⟨fun _ => L1 st x y (.lst ((tabF A ++ tabS A).map fun p => prX K p.1 p.2 x)) (.lst [exD K A.NoInverse [] [], exD K A.UnlikePrimes [] [], exD K A.NoPoly [] [], exD K A.NotNow [] []]) (400 * i + 2), .mk hb, ?_, fun ς ⟨z⟩ => .mk (by omega)⟩
   clear hb
   rintro sd d ς hsd ⟨hb⟩
   obtain ⟨rfl, sd2⟩ := rngD_get hsd
   refine wg_nm (by rfl) ?_
   dsimp only [List.set]
   refine ws_seq (ws_asg (we_lcM (kg_name (by decide)) (wi_seqV (l := (tabF A ++ tabS A).map fun p => prX K p.1 p.2 x) (by rfl) rfl ⟨fstD, lt_size (show 30 < 16777216 by decide), fun d hd oa acc => ?_, ?_⟩)))
   ·obtain ⟨⟨C, f⟩, hC, rfl⟩ := List.mem_map.mp hd
    refine wg_nm (by rfl) ?_
    dsimp only [List.set, wipeD]
    refine we_op (we_var rfl (we_var rfl (rd_ix (l := [exD K C [f] [x], exD K C [f] [x]]) (d := exD K C [f] [x]) rfl ?_ ⟨rfl, rfl, rfl⟩)))
    have hc : sd = 0 ∨ sd = 1 := by omega
    rcases hc with rfl | rfl
    ·exact atI_0
    ·exact atI_1
   rw [errs_fst]
   refine wg_nm (by rfl) ?_
   dsimp only [List.set]
   refine ws_gen (L2 st x y (.lst ((tabF A ++ tabS A).map fun p => prX K p.1 p.2 x)) (.lst [exD K A.NoInverse [] [], exD K A.UnlikePrimes [] [], exD K A.NoPoly [] [], exD K A.NotNow [] []]) (.lst (errsX K A x)) (400 * i + 2)) (.mk hb) ?_
   clear hb
   rintro ς ⟨hb⟩
   refine ws_seq (ws_if (wt_B (we_cb (wl_cons (we_lcM (kg_name (by decide)) (wi_seqL (we_callSb (fun _ _ _ _ z => ⟨x, z⟩) xok0 (wl_cons (we_var rfl (wl_nil ⟨rfl, rfl, ?_, fun _ _ _ _ z => z⟩))))))))))
   rintro d' b' ⟨rfl, rfl⟩
   refine ⟨_, rfl, fun _ => .bl false, lt_size (show 30 < 16777216 by decide), fun d hd oa acc => ?_, ?_⟩
   ·obtain rfl : d = x := List.eq_of_mem_replicate hd
    refine wg_nm (by rfl) ?_
    dsimp only [List.set, wipeD]
    refine we_or (we_op (we_var rfl (we_var rfl (okx.ne _ ⟨_, rfl, fun _ => ?_, fun z => (nomatch z)⟩))))
    refine we_op (we_cb (wl_cons (we_var rfl (wl_cons (we_ty (wl_nil (rc_isiS okx.ty (by decide) (we_cb (wl_cons (we_var rfl (wl_cons (we_ty (wl_nil (rc_isiS okx.ty (by decide) ?_))))))))))))))
    generalize isB (tyS d) "bool" = bb
    refine rd_ne_py rfl rfl ?_
    cases bb <;> exact ⟨rfl, rfl, rfl⟩
   rw [show (List.replicate 30 x).map (fun _ => D.bl false) = (List.replicate 30 false).map D.bl from rfl]
   refine wl_nil (rc_any (bs := List.replicate 30 false) ?_)
   refine ⟨_, rfl, fun z => (nomatch z), fun _ => ws_next ?_⟩
   refine ws_for (wi_enumL (wl_cons (we_op (we_op (we_var rfl (we_var rfl (rd_add_lst (le_size (show 30 + 4 ≤ 16777216 by decide)) (we_lst (wl_cons (we_xv (wl_cons (we_var rfl (wl_cons (we_var rfl (wl_nil ⟨rfl, wl_nil (szB rfl (rd_add_lst (le_size (show 34 + 1 ≤ 16777216 by decide)) (wl_nil ⟨errsAll K A x y, rfl, ?_⟩)))⟩)))))))))))))))
   refine ⟨fun _ => L2 st x y (.lst ((tabF A ++ tabS A).map fun p => prX K p.1 p.2 x)) (.lst [exD K A.NoInverse [] [], exD K A.UnlikePrimes [] [], exD K A.NoPoly [] [], exD K A.NotNow [] []]) (.lst (errsX K A x)) (400 * i + 2), .mk hb, ?_, fun ς ⟨z⟩ => .mk z⟩
   clear hb
   rintro n d ς hn ⟨hb⟩
   obtain ⟨e, he, rfl⟩ := enumD_get hn
   obtain ⟨n35, C, ns, fs, hp, rfl⟩ := errs_at he
   refine wg_tup rfl (wgs_cons (wg_nm (by rfl) (wgs_cons (wg_nm (by rfl) (wgs_nil ?_)))))
   dsimp only [List.set]
   refine ws_seq (ws_if (wt_or (wt_not (wt_B (we_cb (wl_cons (we_var rfl (wl_cons (we_ref (wl_nil (rc_isX (T.xt.ec _ hp) (T.xt.te _ hp) ?_)))))))))))
   refine ⟨_, rfl, fun _ => ?_, fun z => (nomatch z)⟩
   refine wt_not (wt_B (we_cb (wl_cons (we_var rfl (wl_cons (we_ty (wl_nil (rc_isXT (T.xt.ec _ hp) (T.xt.ve _ hp) ?_))))))))
   refine ⟨_, rfl, fun z => (nomatch z), fun _ => ws_next ?_⟩
   refine ws_if (wt_test (we_op (we_callSb (fun _ _ _ _ z => ⟨(clsN.getD n "" : Str), z⟩) xok0 (wl_cons (we_var rfl (wl_nil ⟨rfl, ⟨C, ns, fs, hp, rfl⟩, ?_, fun _ _ _ _ z => z⟩))))))
   rintro d' b' ⟨rfl, rfl⟩
   rw [cls_row n35]
   refine we_lcM (kg_name (by decide)) (wi_rng1 (wl_cons (we_int (wl_nil ⟨35, rfl, by omega, by omega, kEq n, lt_size (show 35 < 16777216 by decide), fun d hd oa acc => ?_, ?_⟩))))
   ·obtain ⟨k, rfl, _⟩ := rng_mem hd
    refine wg_nm (by rfl) ?_
    dsimp only [List.set, wipeD]
    exact we_op (we_var rfl (we_var rfl (rd_eq_int ⟨rfl, rfl, rfl⟩)))
   exact rd_neTw cls_tw ⟨_, rfl, fun z => (nomatch z), fun _ => ws_next (.mk hb)⟩
  rintro ς ⟨hb⟩
  exact ws_ret (we_bl rfl)
end
end K19
set_option Elab.async false
set_option linter.all false
set_option maxRecDepth 100000
set_option maxHeartbeats 4000000
namespace K19
open PySem PySem.Spec PyProof.Rows L2 DL
def adK (K : PySem.W.Frag) : Ad := ⟨He.ga K "TalkError", He.ga K "BadPrime", He.ga K "BadNumber", He.ga K "NoInverse", He.ga K "BadTimes", He.ga K "BadNumbers", He.ga K "UnlikePrimes", He.ga K "BadPoints", He.ga K "BadTerm", He.ga K "BadLetter", He.ga K "BadValues", He.ga K "BadThing", He.ga K "BadLetters", He.ga K "BadCoin", He.ga K "BadDegree", He.ga K "NoPoly", He.ga K "BadBeat", He.ga K "NoBeat", He.ga K "BadThrown", He.ga K "BadMessages", He.ga K "NoSum", He.ga K "Narrow", He.ga K "BadTeller", He.ga K "BadLayer", He.ga K "BadInputs", He.ga K "BadGate", He.ga K "NoLayer", He.ga K "BadPlace", He.ga K "BadCells", He.ga K "BadLook", He.ga K "BadSame", He.ga K "BadLast", He.ga K "BadShare", He.ga K "NotCoin", He.ga K "NotNow", He.ga K "BadText", He.codeOf K ("law", none), He.tabOf K (He.codeOf K ("law", none))⟩
theorem tx {K : PySem.W.Frag} {h : Heap} {mg : Str → Option Value} {w : World} (X : K.In h) (G : h.Ns mainGlobals mg) (c : DY.SaysY fileS fas fns [] xds exs tfs w h K) : Tx R.prog K mg (adK K) := by
 have sn : (R.prog.main.scope.names.lookup ("super" : Str)).isSome = false := by decide +kernel
 exact {
  x_BadPrime := ⟨_, DY.XD.txt X G (c.x x_BadPrime (List.mem_of_getElem? (i := 0) rfl)) (c.ok x_BadPrime (List.mem_of_getElem? (i := 0) rfl)) xs_BadPrime c.sup c.any sn⟩
  x_BadNumber := ⟨_, DY.XD.txt X G (c.x x_BadNumber (List.mem_of_getElem? (i := 1) rfl)) (c.ok x_BadNumber (List.mem_of_getElem? (i := 1) rfl)) xs_BadNumber c.sup c.any sn⟩
  x_NoInverse := ⟨_, DY.XD.txt X G (c.x x_NoInverse (List.mem_of_getElem? (i := 2) rfl)) (c.ok x_NoInverse (List.mem_of_getElem? (i := 2) rfl)) xs_NoInverse c.sup c.any sn⟩
  x_BadTimes := ⟨_, DY.XD.txt X G (c.x x_BadTimes (List.mem_of_getElem? (i := 3) rfl)) (c.ok x_BadTimes (List.mem_of_getElem? (i := 3) rfl)) xs_BadTimes c.sup c.any sn⟩
  x_BadNumbers := ⟨_, DY.XD.txt X G (c.x x_BadNumbers (List.mem_of_getElem? (i := 4) rfl)) (c.ok x_BadNumbers (List.mem_of_getElem? (i := 4) rfl)) xs_BadNumbers c.sup c.any sn⟩
  x_UnlikePrimes := ⟨_, DY.XD.txt X G (c.x x_UnlikePrimes (List.mem_of_getElem? (i := 5) rfl)) (c.ok x_UnlikePrimes (List.mem_of_getElem? (i := 5) rfl)) xs_UnlikePrimes c.sup c.any sn⟩
  x_BadPoints := ⟨_, DY.XD.txt X G (c.x x_BadPoints (List.mem_of_getElem? (i := 6) rfl)) (c.ok x_BadPoints (List.mem_of_getElem? (i := 6) rfl)) xs_BadPoints c.sup c.any sn⟩
  x_BadTerm := ⟨_, DY.XD.txt X G (c.x x_BadTerm (List.mem_of_getElem? (i := 7) rfl)) (c.ok x_BadTerm (List.mem_of_getElem? (i := 7) rfl)) xs_BadTerm c.sup c.any sn⟩
  x_BadLetter := ⟨_, DY.XD.txt X G (c.x x_BadLetter (List.mem_of_getElem? (i := 8) rfl)) (c.ok x_BadLetter (List.mem_of_getElem? (i := 8) rfl)) xs_BadLetter c.sup c.any sn⟩
  x_BadValues := ⟨_, DY.XD.txt X G (c.x x_BadValues (List.mem_of_getElem? (i := 9) rfl)) (c.ok x_BadValues (List.mem_of_getElem? (i := 9) rfl)) xs_BadValues c.sup c.any sn⟩
  x_BadThing := ⟨_, DY.XD.txt X G (c.x x_BadThing (List.mem_of_getElem? (i := 10) rfl)) (c.ok x_BadThing (List.mem_of_getElem? (i := 10) rfl)) xs_BadThing c.sup c.any sn⟩
  x_BadLetters := ⟨_, DY.XD.txt X G (c.x x_BadLetters (List.mem_of_getElem? (i := 11) rfl)) (c.ok x_BadLetters (List.mem_of_getElem? (i := 11) rfl)) xs_BadLetters c.sup c.any sn⟩
  x_BadCoin := ⟨_, DY.XD.txt X G (c.x x_BadCoin (List.mem_of_getElem? (i := 12) rfl)) (c.ok x_BadCoin (List.mem_of_getElem? (i := 12) rfl)) xs_BadCoin c.sup c.any sn⟩
  x_BadDegree := ⟨_, DY.XD.txt X G (c.x x_BadDegree (List.mem_of_getElem? (i := 13) rfl)) (c.ok x_BadDegree (List.mem_of_getElem? (i := 13) rfl)) xs_BadDegree c.sup c.any sn⟩
  x_NoPoly := ⟨_, DY.XD.txt X G (c.x x_NoPoly (List.mem_of_getElem? (i := 14) rfl)) (c.ok x_NoPoly (List.mem_of_getElem? (i := 14) rfl)) xs_NoPoly c.sup c.any sn⟩
  x_BadBeat := ⟨_, DY.XD.txt X G (c.x x_BadBeat (List.mem_of_getElem? (i := 15) rfl)) (c.ok x_BadBeat (List.mem_of_getElem? (i := 15) rfl)) xs_BadBeat c.sup c.any sn⟩
  x_NoBeat := ⟨_, DY.XD.txt X G (c.x x_NoBeat (List.mem_of_getElem? (i := 16) rfl)) (c.ok x_NoBeat (List.mem_of_getElem? (i := 16) rfl)) xs_NoBeat c.sup c.any sn⟩
  x_BadThrown := ⟨_, DY.XD.txt X G (c.x x_BadThrown (List.mem_of_getElem? (i := 17) rfl)) (c.ok x_BadThrown (List.mem_of_getElem? (i := 17) rfl)) xs_BadThrown c.sup c.any sn⟩
  x_BadMessages := ⟨_, DY.XD.txt X G (c.x x_BadMessages (List.mem_of_getElem? (i := 18) rfl)) (c.ok x_BadMessages (List.mem_of_getElem? (i := 18) rfl)) xs_BadMessages c.sup c.any sn⟩
  x_NoSum := ⟨_, DY.XD.txt X G (c.x x_NoSum (List.mem_of_getElem? (i := 19) rfl)) (c.ok x_NoSum (List.mem_of_getElem? (i := 19) rfl)) xs_NoSum c.sup c.any sn⟩
  x_Narrow := ⟨_, DY.XD.txt X G (c.x x_Narrow (List.mem_of_getElem? (i := 20) rfl)) (c.ok x_Narrow (List.mem_of_getElem? (i := 20) rfl)) xs_Narrow c.sup c.any sn⟩
  x_BadTeller := ⟨_, DY.XD.txt X G (c.x x_BadTeller (List.mem_of_getElem? (i := 21) rfl)) (c.ok x_BadTeller (List.mem_of_getElem? (i := 21) rfl)) xs_BadTeller c.sup c.any sn⟩
  x_BadLayer := ⟨_, DY.XD.txt X G (c.x x_BadLayer (List.mem_of_getElem? (i := 22) rfl)) (c.ok x_BadLayer (List.mem_of_getElem? (i := 22) rfl)) xs_BadLayer c.sup c.any sn⟩
  x_BadInputs := ⟨_, DY.XD.txt X G (c.x x_BadInputs (List.mem_of_getElem? (i := 23) rfl)) (c.ok x_BadInputs (List.mem_of_getElem? (i := 23) rfl)) xs_BadInputs c.sup c.any sn⟩
  x_BadGate := ⟨_, DY.XD.txt X G (c.x x_BadGate (List.mem_of_getElem? (i := 24) rfl)) (c.ok x_BadGate (List.mem_of_getElem? (i := 24) rfl)) xs_BadGate c.sup c.any sn⟩
  x_NoLayer := ⟨_, DY.XD.txt X G (c.x x_NoLayer (List.mem_of_getElem? (i := 25) rfl)) (c.ok x_NoLayer (List.mem_of_getElem? (i := 25) rfl)) xs_NoLayer c.sup c.any sn⟩
  x_BadPlace := ⟨_, DY.XD.txt X G (c.x x_BadPlace (List.mem_of_getElem? (i := 26) rfl)) (c.ok x_BadPlace (List.mem_of_getElem? (i := 26) rfl)) xs_BadPlace c.sup c.any sn⟩
  x_BadCells := ⟨_, DY.XD.txt X G (c.x x_BadCells (List.mem_of_getElem? (i := 27) rfl)) (c.ok x_BadCells (List.mem_of_getElem? (i := 27) rfl)) xs_BadCells c.sup c.any sn⟩
  x_BadLook := ⟨_, DY.XD.txt X G (c.x x_BadLook (List.mem_of_getElem? (i := 28) rfl)) (c.ok x_BadLook (List.mem_of_getElem? (i := 28) rfl)) xs_BadLook c.sup c.any sn⟩
  x_BadSame := ⟨_, DY.XD.txt X G (c.x x_BadSame (List.mem_of_getElem? (i := 29) rfl)) (c.ok x_BadSame (List.mem_of_getElem? (i := 29) rfl)) xs_BadSame c.sup c.any sn⟩
  x_BadLast := ⟨_, DY.XD.txt X G (c.x x_BadLast (List.mem_of_getElem? (i := 30) rfl)) (c.ok x_BadLast (List.mem_of_getElem? (i := 30) rfl)) xs_BadLast c.sup c.any sn⟩
  x_BadShare := ⟨_, DY.XD.txt X G (c.x x_BadShare (List.mem_of_getElem? (i := 31) rfl)) (c.ok x_BadShare (List.mem_of_getElem? (i := 31) rfl)) xs_BadShare c.sup c.any sn⟩
  x_NotCoin := ⟨_, DY.XD.txt X G (c.x x_NotCoin (List.mem_of_getElem? (i := 32) rfl)) (c.ok x_NotCoin (List.mem_of_getElem? (i := 32) rfl)) xs_NotCoin c.sup c.any sn⟩
  x_NotNow := ⟨_, DY.XD.txt X G (c.x x_NotNow (List.mem_of_getElem? (i := 33) rfl)) (c.ok x_NotNow (List.mem_of_getElem? (i := 33) rfl)) xs_NotNow c.sup c.any sn⟩
  x_BadText := ⟨_, DY.XD.txt X G (c.x x_BadText (List.mem_of_getElem? (i := 34) rfl)) (c.ok x_BadText (List.mem_of_getElem? (i := 34) rfl)) xs_BadText c.sup c.any sn⟩
  m_TalkError := DY.glo_at X G c (List.mem_of_getElem? (i := 0) rfl)
  m_BadPrime := DY.glo_at X G c (List.mem_of_getElem? (i := 1) rfl)
  m_BadNumber := DY.glo_at X G c (List.mem_of_getElem? (i := 2) rfl)
  m_NoInverse := DY.glo_at X G c (List.mem_of_getElem? (i := 3) rfl)
  m_BadTimes := DY.glo_at X G c (List.mem_of_getElem? (i := 4) rfl)
  m_BadNumbers := DY.glo_at X G c (List.mem_of_getElem? (i := 5) rfl)
  m_UnlikePrimes := DY.glo_at X G c (List.mem_of_getElem? (i := 6) rfl)
  m_BadPoints := DY.glo_at X G c (List.mem_of_getElem? (i := 7) rfl)
  m_BadTerm := DY.glo_at X G c (List.mem_of_getElem? (i := 8) rfl)
  m_BadLetter := DY.glo_at X G c (List.mem_of_getElem? (i := 9) rfl)
  m_BadValues := DY.glo_at X G c (List.mem_of_getElem? (i := 10) rfl)
  m_BadThing := DY.glo_at X G c (List.mem_of_getElem? (i := 11) rfl)
  m_BadLetters := DY.glo_at X G c (List.mem_of_getElem? (i := 12) rfl)
  m_BadCoin := DY.glo_at X G c (List.mem_of_getElem? (i := 13) rfl)
  m_BadDegree := DY.glo_at X G c (List.mem_of_getElem? (i := 14) rfl)
  m_NoPoly := DY.glo_at X G c (List.mem_of_getElem? (i := 15) rfl)
  m_BadBeat := DY.glo_at X G c (List.mem_of_getElem? (i := 16) rfl)
  m_NoBeat := DY.glo_at X G c (List.mem_of_getElem? (i := 17) rfl)
  m_BadThrown := DY.glo_at X G c (List.mem_of_getElem? (i := 18) rfl)
  m_BadMessages := DY.glo_at X G c (List.mem_of_getElem? (i := 19) rfl)
  m_NoSum := DY.glo_at X G c (List.mem_of_getElem? (i := 20) rfl)
  m_Narrow := DY.glo_at X G c (List.mem_of_getElem? (i := 21) rfl)
  m_BadTeller := DY.glo_at X G c (List.mem_of_getElem? (i := 22) rfl)
  m_BadLayer := DY.glo_at X G c (List.mem_of_getElem? (i := 23) rfl)
  m_BadInputs := DY.glo_at X G c (List.mem_of_getElem? (i := 24) rfl)
  m_BadGate := DY.glo_at X G c (List.mem_of_getElem? (i := 25) rfl)
  m_NoLayer := DY.glo_at X G c (List.mem_of_getElem? (i := 26) rfl)
  m_BadPlace := DY.glo_at X G c (List.mem_of_getElem? (i := 27) rfl)
  m_BadCells := DY.glo_at X G c (List.mem_of_getElem? (i := 28) rfl)
  m_BadLook := DY.glo_at X G c (List.mem_of_getElem? (i := 29) rfl)
  m_BadSame := DY.glo_at X G c (List.mem_of_getElem? (i := 30) rfl)
  m_BadLast := DY.glo_at X G c (List.mem_of_getElem? (i := 31) rfl)
  m_BadShare := DY.glo_at X G c (List.mem_of_getElem? (i := 32) rfl)
  m_NotCoin := DY.glo_at X G c (List.mem_of_getElem? (i := 33) rfl)
  m_NotNow := DY.glo_at X G c (List.mem_of_getElem? (i := 34) rfl)
  m_BadText := DY.glo_at X G c (List.mem_of_getElem? (i := 35) rfl)
  xk_BadPrime := ⟨_, DY.XD.txt X G (c.x x_BadPrime (List.mem_of_getElem? (i := 0) rfl)) (c.ok x_BadPrime (List.mem_of_getElem? (i := 0) rfl)) xs_BadPrime c.sup c.any sn, DZ.kwb (c.x x_BadPrime (List.mem_of_getElem? (i := 0) rfl)) (c.ok x_BadPrime (List.mem_of_getElem? (i := 0) rfl)) xk_BadPrime⟩
  xk_BadNumber := ⟨_, DY.XD.txt X G (c.x x_BadNumber (List.mem_of_getElem? (i := 1) rfl)) (c.ok x_BadNumber (List.mem_of_getElem? (i := 1) rfl)) xs_BadNumber c.sup c.any sn, DZ.kwb (c.x x_BadNumber (List.mem_of_getElem? (i := 1) rfl)) (c.ok x_BadNumber (List.mem_of_getElem? (i := 1) rfl)) xk_BadNumber⟩
  xk_BadTimes := ⟨_, DY.XD.txt X G (c.x x_BadTimes (List.mem_of_getElem? (i := 3) rfl)) (c.ok x_BadTimes (List.mem_of_getElem? (i := 3) rfl)) xs_BadTimes c.sup c.any sn, DZ.kwb (c.x x_BadTimes (List.mem_of_getElem? (i := 3) rfl)) (c.ok x_BadTimes (List.mem_of_getElem? (i := 3) rfl)) xk_BadTimes⟩
  xk_BadNumbers := ⟨_, DY.XD.txt X G (c.x x_BadNumbers (List.mem_of_getElem? (i := 4) rfl)) (c.ok x_BadNumbers (List.mem_of_getElem? (i := 4) rfl)) xs_BadNumbers c.sup c.any sn, DZ.kwb (c.x x_BadNumbers (List.mem_of_getElem? (i := 4) rfl)) (c.ok x_BadNumbers (List.mem_of_getElem? (i := 4) rfl)) xk_BadNumbers⟩
  xk_BadPoints := ⟨_, DY.XD.txt X G (c.x x_BadPoints (List.mem_of_getElem? (i := 6) rfl)) (c.ok x_BadPoints (List.mem_of_getElem? (i := 6) rfl)) xs_BadPoints c.sup c.any sn, DZ.kwb (c.x x_BadPoints (List.mem_of_getElem? (i := 6) rfl)) (c.ok x_BadPoints (List.mem_of_getElem? (i := 6) rfl)) xk_BadPoints⟩
  xk_BadTerm := ⟨_, DY.XD.txt X G (c.x x_BadTerm (List.mem_of_getElem? (i := 7) rfl)) (c.ok x_BadTerm (List.mem_of_getElem? (i := 7) rfl)) xs_BadTerm c.sup c.any sn, DZ.kwb (c.x x_BadTerm (List.mem_of_getElem? (i := 7) rfl)) (c.ok x_BadTerm (List.mem_of_getElem? (i := 7) rfl)) xk_BadTerm⟩
  xk_BadLetter := ⟨_, DY.XD.txt X G (c.x x_BadLetter (List.mem_of_getElem? (i := 8) rfl)) (c.ok x_BadLetter (List.mem_of_getElem? (i := 8) rfl)) xs_BadLetter c.sup c.any sn, DZ.kwb (c.x x_BadLetter (List.mem_of_getElem? (i := 8) rfl)) (c.ok x_BadLetter (List.mem_of_getElem? (i := 8) rfl)) xk_BadLetter⟩
  xk_BadValues := ⟨_, DY.XD.txt X G (c.x x_BadValues (List.mem_of_getElem? (i := 9) rfl)) (c.ok x_BadValues (List.mem_of_getElem? (i := 9) rfl)) xs_BadValues c.sup c.any sn, DZ.kwb (c.x x_BadValues (List.mem_of_getElem? (i := 9) rfl)) (c.ok x_BadValues (List.mem_of_getElem? (i := 9) rfl)) xk_BadValues⟩
  xk_BadThing := ⟨_, DY.XD.txt X G (c.x x_BadThing (List.mem_of_getElem? (i := 10) rfl)) (c.ok x_BadThing (List.mem_of_getElem? (i := 10) rfl)) xs_BadThing c.sup c.any sn, DZ.kwb (c.x x_BadThing (List.mem_of_getElem? (i := 10) rfl)) (c.ok x_BadThing (List.mem_of_getElem? (i := 10) rfl)) xk_BadThing⟩
  xk_BadLetters := ⟨_, DY.XD.txt X G (c.x x_BadLetters (List.mem_of_getElem? (i := 11) rfl)) (c.ok x_BadLetters (List.mem_of_getElem? (i := 11) rfl)) xs_BadLetters c.sup c.any sn, DZ.kwb (c.x x_BadLetters (List.mem_of_getElem? (i := 11) rfl)) (c.ok x_BadLetters (List.mem_of_getElem? (i := 11) rfl)) xk_BadLetters⟩
  xk_BadCoin := ⟨_, DY.XD.txt X G (c.x x_BadCoin (List.mem_of_getElem? (i := 12) rfl)) (c.ok x_BadCoin (List.mem_of_getElem? (i := 12) rfl)) xs_BadCoin c.sup c.any sn, DZ.kwb (c.x x_BadCoin (List.mem_of_getElem? (i := 12) rfl)) (c.ok x_BadCoin (List.mem_of_getElem? (i := 12) rfl)) xk_BadCoin⟩
  xk_BadDegree := ⟨_, DY.XD.txt X G (c.x x_BadDegree (List.mem_of_getElem? (i := 13) rfl)) (c.ok x_BadDegree (List.mem_of_getElem? (i := 13) rfl)) xs_BadDegree c.sup c.any sn, DZ.kwb (c.x x_BadDegree (List.mem_of_getElem? (i := 13) rfl)) (c.ok x_BadDegree (List.mem_of_getElem? (i := 13) rfl)) xk_BadDegree⟩
  xk_BadBeat := ⟨_, DY.XD.txt X G (c.x x_BadBeat (List.mem_of_getElem? (i := 15) rfl)) (c.ok x_BadBeat (List.mem_of_getElem? (i := 15) rfl)) xs_BadBeat c.sup c.any sn, DZ.kwb (c.x x_BadBeat (List.mem_of_getElem? (i := 15) rfl)) (c.ok x_BadBeat (List.mem_of_getElem? (i := 15) rfl)) xk_BadBeat⟩
  xk_NoBeat := ⟨_, DY.XD.txt X G (c.x x_NoBeat (List.mem_of_getElem? (i := 16) rfl)) (c.ok x_NoBeat (List.mem_of_getElem? (i := 16) rfl)) xs_NoBeat c.sup c.any sn, DZ.kwb (c.x x_NoBeat (List.mem_of_getElem? (i := 16) rfl)) (c.ok x_NoBeat (List.mem_of_getElem? (i := 16) rfl)) xk_NoBeat⟩
  xk_BadThrown := ⟨_, DY.XD.txt X G (c.x x_BadThrown (List.mem_of_getElem? (i := 17) rfl)) (c.ok x_BadThrown (List.mem_of_getElem? (i := 17) rfl)) xs_BadThrown c.sup c.any sn, DZ.kwb (c.x x_BadThrown (List.mem_of_getElem? (i := 17) rfl)) (c.ok x_BadThrown (List.mem_of_getElem? (i := 17) rfl)) xk_BadThrown⟩
  xk_BadMessages := ⟨_, DY.XD.txt X G (c.x x_BadMessages (List.mem_of_getElem? (i := 18) rfl)) (c.ok x_BadMessages (List.mem_of_getElem? (i := 18) rfl)) xs_BadMessages c.sup c.any sn, DZ.kwb (c.x x_BadMessages (List.mem_of_getElem? (i := 18) rfl)) (c.ok x_BadMessages (List.mem_of_getElem? (i := 18) rfl)) xk_BadMessages⟩
  xk_NoSum := ⟨_, DY.XD.txt X G (c.x x_NoSum (List.mem_of_getElem? (i := 19) rfl)) (c.ok x_NoSum (List.mem_of_getElem? (i := 19) rfl)) xs_NoSum c.sup c.any sn, DZ.kwb (c.x x_NoSum (List.mem_of_getElem? (i := 19) rfl)) (c.ok x_NoSum (List.mem_of_getElem? (i := 19) rfl)) xk_NoSum⟩
  xk_Narrow := ⟨_, DY.XD.txt X G (c.x x_Narrow (List.mem_of_getElem? (i := 20) rfl)) (c.ok x_Narrow (List.mem_of_getElem? (i := 20) rfl)) xs_Narrow c.sup c.any sn, DZ.kwb (c.x x_Narrow (List.mem_of_getElem? (i := 20) rfl)) (c.ok x_Narrow (List.mem_of_getElem? (i := 20) rfl)) xk_Narrow⟩
  xk_BadTeller := ⟨_, DY.XD.txt X G (c.x x_BadTeller (List.mem_of_getElem? (i := 21) rfl)) (c.ok x_BadTeller (List.mem_of_getElem? (i := 21) rfl)) xs_BadTeller c.sup c.any sn, DZ.kwb (c.x x_BadTeller (List.mem_of_getElem? (i := 21) rfl)) (c.ok x_BadTeller (List.mem_of_getElem? (i := 21) rfl)) xk_BadTeller⟩
  xk_BadLayer := ⟨_, DY.XD.txt X G (c.x x_BadLayer (List.mem_of_getElem? (i := 22) rfl)) (c.ok x_BadLayer (List.mem_of_getElem? (i := 22) rfl)) xs_BadLayer c.sup c.any sn, DZ.kwb (c.x x_BadLayer (List.mem_of_getElem? (i := 22) rfl)) (c.ok x_BadLayer (List.mem_of_getElem? (i := 22) rfl)) xk_BadLayer⟩
  xk_BadInputs := ⟨_, DY.XD.txt X G (c.x x_BadInputs (List.mem_of_getElem? (i := 23) rfl)) (c.ok x_BadInputs (List.mem_of_getElem? (i := 23) rfl)) xs_BadInputs c.sup c.any sn, DZ.kwb (c.x x_BadInputs (List.mem_of_getElem? (i := 23) rfl)) (c.ok x_BadInputs (List.mem_of_getElem? (i := 23) rfl)) xk_BadInputs⟩
  xk_NoLayer := ⟨_, DY.XD.txt X G (c.x x_NoLayer (List.mem_of_getElem? (i := 25) rfl)) (c.ok x_NoLayer (List.mem_of_getElem? (i := 25) rfl)) xs_NoLayer c.sup c.any sn, DZ.kwb (c.x x_NoLayer (List.mem_of_getElem? (i := 25) rfl)) (c.ok x_NoLayer (List.mem_of_getElem? (i := 25) rfl)) xk_NoLayer⟩
  xk_BadPlace := ⟨_, DY.XD.txt X G (c.x x_BadPlace (List.mem_of_getElem? (i := 26) rfl)) (c.ok x_BadPlace (List.mem_of_getElem? (i := 26) rfl)) xs_BadPlace c.sup c.any sn, DZ.kwb (c.x x_BadPlace (List.mem_of_getElem? (i := 26) rfl)) (c.ok x_BadPlace (List.mem_of_getElem? (i := 26) rfl)) xk_BadPlace⟩
  xk_BadCells := ⟨_, DY.XD.txt X G (c.x x_BadCells (List.mem_of_getElem? (i := 27) rfl)) (c.ok x_BadCells (List.mem_of_getElem? (i := 27) rfl)) xs_BadCells c.sup c.any sn, DZ.kwb (c.x x_BadCells (List.mem_of_getElem? (i := 27) rfl)) (c.ok x_BadCells (List.mem_of_getElem? (i := 27) rfl)) xk_BadCells⟩
  xk_BadLook := ⟨_, DY.XD.txt X G (c.x x_BadLook (List.mem_of_getElem? (i := 28) rfl)) (c.ok x_BadLook (List.mem_of_getElem? (i := 28) rfl)) xs_BadLook c.sup c.any sn, DZ.kwb (c.x x_BadLook (List.mem_of_getElem? (i := 28) rfl)) (c.ok x_BadLook (List.mem_of_getElem? (i := 28) rfl)) xk_BadLook⟩
  xk_BadSame := ⟨_, DY.XD.txt X G (c.x x_BadSame (List.mem_of_getElem? (i := 29) rfl)) (c.ok x_BadSame (List.mem_of_getElem? (i := 29) rfl)) xs_BadSame c.sup c.any sn, DZ.kwb (c.x x_BadSame (List.mem_of_getElem? (i := 29) rfl)) (c.ok x_BadSame (List.mem_of_getElem? (i := 29) rfl)) xk_BadSame⟩
  xk_BadLast := ⟨_, DY.XD.txt X G (c.x x_BadLast (List.mem_of_getElem? (i := 30) rfl)) (c.ok x_BadLast (List.mem_of_getElem? (i := 30) rfl)) xs_BadLast c.sup c.any sn, DZ.kwb (c.x x_BadLast (List.mem_of_getElem? (i := 30) rfl)) (c.ok x_BadLast (List.mem_of_getElem? (i := 30) rfl)) xk_BadLast⟩
  xk_BadShare := ⟨_, DY.XD.txt X G (c.x x_BadShare (List.mem_of_getElem? (i := 31) rfl)) (c.ok x_BadShare (List.mem_of_getElem? (i := 31) rfl)) xs_BadShare c.sup c.any sn, DZ.kwb (c.x x_BadShare (List.mem_of_getElem? (i := 31) rfl)) (c.ok x_BadShare (List.mem_of_getElem? (i := 31) rfl)) xk_BadShare⟩
  xk_NotCoin := ⟨_, DY.XD.txt X G (c.x x_NotCoin (List.mem_of_getElem? (i := 32) rfl)) (c.ok x_NotCoin (List.mem_of_getElem? (i := 32) rfl)) xs_NotCoin c.sup c.any sn, DZ.kwb (c.x x_NotCoin (List.mem_of_getElem? (i := 32) rfl)) (c.ok x_NotCoin (List.mem_of_getElem? (i := 32) rfl)) xk_NotCoin⟩
  xk_BadText := ⟨_, DY.XD.txt X G (c.x x_BadText (List.mem_of_getElem? (i := 34) rfl)) (c.ok x_BadText (List.mem_of_getElem? (i := 34) rfl)) xs_BadText c.sup c.any sn, DZ.kwb (c.x x_BadText (List.mem_of_getElem? (i := 34) rfl)) (c.ok x_BadText (List.mem_of_getElem? (i := 34) rfl)) xk_BadText⟩
  xk_BadGate := ⟨_, DY.XD.txt X G (c.x x_BadGate (List.mem_of_getElem? (i := 24) rfl)) (c.ok x_BadGate (List.mem_of_getElem? (i := 24) rfl)) xs_BadGate c.sup c.any sn, DZ.kwb (c.x x_BadGate (List.mem_of_getElem? (i := 24) rfl)) (c.ok x_BadGate (List.mem_of_getElem? (i := 24) rfl)) xk_BadGate⟩
  f__law_start := DY.fun_at X G c "_law_start" s__law_start ["_law_script"] (List.mem_of_getElem? (i := 0) rfl) (List.mem_of_getElem? (i := 36) rfl) (fun _ _ _ _ _ _ us hl => match us, hl with | [_], _ => rfl)
  f__law_draw := DY.fun_at X G c "_law_draw" s__law_draw ["_law_stream", "_law_many"] (List.mem_of_getElem? (i := 1) rfl) (List.mem_of_getElem? (i := 37) rfl) (fun _ _ _ _ _ _ us hl => match us, hl with | [_, _], _ => rfl)
  f__law_pick := DY.fun_at X G c "_law_pick" s__law_pick ["_law_stream", "_law_some"] (List.mem_of_getElem? (i := 2) rfl) (List.mem_of_getElem? (i := 38) rfl) (fun _ _ _ _ _ _ us hl => match us, hl with | [_, _], _ => rfl)
  f__law_first := DY.fun_at X G c "_law_first" s__law_first ["_law_x"] (List.mem_of_getElem? (i := 3) rfl) (List.mem_of_getElem? (i := 39) rfl) (fun _ _ _ _ _ _ us hl => match us, hl with | [_], _ => rfl)
  f__law_second := DY.fun_at X G c "_law_second" s__law_second ["_law_x"] (List.mem_of_getElem? (i := 4) rfl) (List.mem_of_getElem? (i := 40) rfl) (fun _ _ _ _ _ _ us hl => match us, hl with | [_], _ => rfl)
  f__law_held := DY.fun_at X G c "_law_held" s__law_held ["_law_e"] (List.mem_of_getElem? (i := 5) rfl) (List.mem_of_getElem? (i := 41) rfl) (fun _ _ _ _ _ _ us hl => match us, hl with | [_], _ => rfl)
  f__law_classes := DY.fun_at X G c "_law_classes" s__law_classes ["_law_e"] (List.mem_of_getElem? (i := 6) rfl) (List.mem_of_getElem? (i := 42) rfl) (fun _ _ _ _ _ _ us hl => match us, hl with | [_], _ => rfl)
  f_law := DY.fun_at X G c "law" s_law ["_law_script"] (List.mem_of_getElem? (i := 7) rfl) (List.mem_of_getElem? (i := 43) rfl) (fun _ _ _ _ _ _ us hl => match us, hl with | [_], _ => rfl)
  z_ValueError := DY.free_at X G c (List.mem_of_getElem? (i := 44) rfl)
  z_any := DY.free_at X G c (List.mem_of_getElem? (i := 45) rfl)
  z_bool := DY.free_at X G c (List.mem_of_getElem? (i := 46) rfl)
  z_enumerate := DY.free_at X G c (List.mem_of_getElem? (i := 47) rfl)
  z_int := DY.free_at X G c (List.mem_of_getElem? (i := 48) rfl)
  z_isinstance := DY.free_at X G c (List.mem_of_getElem? (i := 49) rfl)
  z_len := DY.free_at X G c (List.mem_of_getElem? (i := 50) rfl)
  z_list := DY.free_at X G c (List.mem_of_getElem? (i := 51) rfl)
  z_range := DY.free_at X G c (List.mem_of_getElem? (i := 52) rfl)
  xt := DZ.xt_ok c.more
  c_law := fun a oc od fd osl cc hm lk e => DY.code_at X G c (List.mem_of_getElem? (i := 43) rfl) hm lk e }
theorem lawAt {w : World} {K : PySem.W.Frag} {mg : Str → Option Value} {fa : Addr} {h : Heap} (X : K.In h) (G : h.Ns mainGlobals mg) (c : DY.SaysY fileS fas fns [] xds exs tfs w h K) (hmg : mg "law" = some (.ref fa)) :
  LamX.LawAtS PySem.Challenge.rw_weaktalks_k19_errors_made w K (L2.CX R.prog w) 12 63 "_law_script" mg fa h := by
 have T := tx X G c
 obtain ⟨a, fd, F, m, bi⟩ := T.f_law
 have e := hmg.symm.trans m
 cases e
 refine ⟨fd, [((adK K).cL, (adK K).tL)], spLaw K (adK K), ?_, ?_, ?_, ?_, ?_, ?_⟩
 ·intro p hp
  rw [List.mem_singleton.mp hp]
  exact c.empty _ List.mem_cons_self
 ·intro p hp
  rw [List.mem_singleton.mp hp]
  exact c.out _ List.mem_cons_self
 ·intro p hp
  rw [List.mem_singleton.mp hp]
  exact PySem.W.codeHd_of_K X (c.hd _ List.mem_cons_self)
 ·intro s u
  obtain ⟨oc, od, kV, doc, pm, an, cdv, ct, osl, rfl, lk, hcd⟩ := F.ex
  exact .of_eq rfl
 ·intro H a ns _ _ hT hS
  exact ⟨a, ns, rfl, hS, hT _ List.mem_cons_self, fun _ => rfl⟩
 ·intro base _ _ hB
  exact ok_law T (hB _ List.mem_cons_self) F m
end K19
open PySem PySem.W PySem.Calls PyProof.Rows
theorem PySem.Challenge.cw_weaktalks_k19_errors_made_holds : PySem.Challenge.rw_weaktalks_k19_errors_made.Holds := by
 exact K19.holds_of fun X G c hmg => K19.lawAt X G c hmg
