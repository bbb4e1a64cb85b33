import PyProof.Rows.All
import Wide.All
import OpenK.AllK
import Wide.FinOn
import KE.KStateDown
import Lean
import HandS.ForMost
import HandS.ForExc
import KE.KeyNested
import HandS.Lambda
import HandS.Wide
import HandS.WideBits
import HandS.Text
import HandS.Defaults
import HandS.TupAny
import HandS.NoneIn
import HandS.EndBits
import HandS.HeadEnd
import HandS.Head0
import HandS.Head1
import HandS.Head2
import HandS.HeadHook1
import HandS.HeadHook2
import HandS.DeepEq
import HandS.More
import HandS.DictComp
import HandS.IsInst
import HandS.ExcOwn
import HandS.ExcIs
import HandS.CallLocal
import HandS.HotCalls
import HandS.ExcCtx
import KE.SortData
import KE.DataFind
import HandS.Conv
import HandS.Deep
import HandS.SetFor
import HandS.Strs
import HandS.Zip
import HandS.TupMul
import HandS.SetKeys
import KE.GoesNew
import HandS.Hot
import KE.KIndexOf
import HandS.Sort
import HandS.Finally
import PyProof.ListNew
import PyProof.Rows.TupTab
import HandS.DictTup
import HandS.Replace
import HandS.StrMore
import HandS.EndTab
import HandS.HeadWalk
import HandS.HeadHook4
import PySem.Challenge.RW_loopcube_k02_sums_and_products

/-! ## VRep -/
set_option Elab.async false
set_option linter.all false
set_option maxHeartbeats 0
set_option maxRecDepth 100000
namespace VV
open PySem PySem.Spec PyProof.Rows L2

/-- keys of dicts -/
inductive Ky where
  | k (x : Key) | t (xs : List Key)
  deriving DecidableEq

/-- the module's names, the written part -/
structure Mg where
  mg : Str → Option Value
  K : PySem.W.Frag
abbrev _root_.L2.Cx.vm (X : Cx) : Mg := ⟨X.mg, X.K⟩
/-- the script's list -/
def ScrAt (K : PySem.W.Frag) (H : Hp) (a : Addr) (xs : List V) : Prop := (∃ o, H a = some (.frz o (.lst xs))) ∨
    ∃ (o : Obj) (its : Array Value) (n : Nat), K.lookup a = some o ∧ o.cls = .type "list" ∧ o.dict = none ∧ o.data = .seq its n ∧ its.size ≤ sizeLine ∧ Vals xs its.toList
theorem ScrAt.sq {K : PySem.W.Frag} {H : Hp} {a : Addr} {xs : List V} (h : ScrAt K H a xs) : SqL K H a xs := h.imp .inr id
/-- an entry: the key, where its tuple stands, the value -/
abbrev Ne := NestedKey × Addr × V
def NeR (p : Ne) (q : NestedKey × Addr × Value) : Prop := p.1 = q.1 ∧ p.2.1 = q.2.1 ∧ RelV p.2.2 q.2.2
def NkObj (a : Addr) (xs : List Ne) (h : Heap) : Prop := ((a == sysModules) = false ∧ xs.length ≤ sizeLine ∧ (xs.map (·.1)).Nodup) ∧ ∃ ys : List (NestedKey × Addr × Value), Paired NeR xs ys ∧
  ∃ o es ep, h.get? a = some o ∧ o.ExactDict ∧ o.data = .dict es ep ∧ ∀ w : World, es.toList = ys.map fun y => ⟨y.1.hash w, .ref y.2.1, y.2.2⟩
def nkO (a : Addr) (xs : List Ne) : HO := .ext (NkObj a xs)
/-- a lambda: where its function and its code object stand, its qualified name, what its cells hold -/
structure LamId where
  f : Addr
  c : Addr
  q : Str
  vs : List V
/-- a value as a tree -/
inductive D where
  | non | bl (b : Bool) | int (i : Int) | str (s : Str)
  | tup (l : List D) | lst (l : List D)
  /-- the script: a list that is known to the object -/
  | scr (l : List D)
  | dic (tk : Bool) (ks : List Ky) (vs : List D)
  | obj (c : Str) (ns : List Str) (fs : List D)
  | fn (x : Str)
  /-- a tuple of whole numbers that is known to the object, without a dict of its own -/
  | kti (l : List Int)
  /-- a dict whose keys are tuples of whole numbers, truths and such tuples, whose values are flat -/
  | dix (ks : List D) (vs : List D)
  /-- a tuple of texts of the module -/
  | ktx (l : List Str)
  /-- a lambda, the trees that it has captured -/
  | clo (x : LamId) (ds : List D)

mutual
/-- a tree as such a key -/
def D.nk : D → Option NestedKey
  | .int i => some (.num i)
  | .bl b => some (.num (if b = true then 1 else 0))
  | .kti l => some (.tup (l.map .num))
  | .tup l => (D.nkL l).map .tup
  | _ => none
def D.nkL : List D → Option (List NestedKey)
  | [] => some []
  | d :: r => match d.nk, D.nkL r with
    | some k, some ks => some (k :: ks)
    | _, _ => none
end
/-- what stands at a may still be read as before -/
def _root_.L2.HO.bare : HO → Prop
  | .frz _ _ => False
  | _ => True
def Kp (H H' : Hp) (a : Addr) : Prop := (∀ u : HO, u.bare → Rd H a u → Rd H' a u) ∧ (∀ vs, H a = some (.lst vs) → H' a = some (.lst vs)) ∧ ∀ C dx fs, H a = some (.ins C dx fs) → H' a = some (.ins C dx fs)
/-- tuples and the script stay -/
def KpT (H H' : Hp) : Prop := (∀ a xs, H a = some (.tup xs) → H' a = some (.tup xs)) ∧ (∀ a o vs, H a = some (.frz o (.lst vs)) → H' a = some (.frz o (.lst vs))) ∧ ∀ a o vs, H a = some (.frz o (.tup vs)) → H' a = some (.frz o (.tup vs))
/-- the dict at a has these keys and values; tk: its keys are tuples -/
def RdD (H : Hp) (a : Addr) (tk : Bool) (ks : List Ky) (vs : List V) : Prop :=
  (ks.length = vs.length ∧ ks.Nodup) ∧ match tk with
  | false => ∃ kl : List Key, ks = kl.map Ky.k ∧ Rd H a (.dK (kl.zip vs))
  | true => ∃ kl : List (List Key), ks = kl.map Ky.t ∧ Rd H a (.dT (kl.zip vs))

mutual
def Rep (mg : Mg) (H : Hp) : D → V → List Addr → Prop
  | .non, v, fp => v = .non ∧ fp = []
  | .bl b, v, fp => v = .bl b ∧ fp = []
  | .int i, v, fp => v = .int i ∧ fp = []
  | .str s, v, fp => v = .str s ∧ fp = []
  | .fn x, v, fp => (∃ a, v = .ref a ∧ mg.mg x = some (.ref a)) ∧ fp = []
  | .kti l, v, fp => (∃ a o, v = .ref a ∧ H a = some (.frz o (.tup (l.map V.int))) ∧ o.dict = none) ∧ fp = []
  | .ktx l, v, fp => (∃ a, v = .ref a ∧ ∀ G, SqT mg.K G a (l.map V.str)) ∧ fp = []
  | .dix ks ds, v, fp => ∃ (a : Addr) (xs : List Ne), v = .ref a ∧ (Rd H a (nkO a xs) ∧ D.nkL ks = some (xs.map (·.1)) ∧ ∀ x ∈ xs, x.1.depth ≤ 8) ∧ RepL mg H ks (xs.map fun x => V.ref x.2.1) [] ∧ RepL mg H ds (xs.map fun x => x.2.2) [] ∧ fp = [a]
  | .clo x ds, v, fp => ∃ f, v = .ref x.f ∧ Rd H x.c (LamX.CodeO x.c x.q) ∧ RepL mg H ds x.vs f ∧ fp = x.c :: f
  | .tup ds, v, fp => ∃ a vs, v = .ref a ∧ H a = some (.tup vs) ∧ RepL mg H ds vs fp
  | .lst ds, v, fp => ∃ a vs f, v = .ref a ∧ H a = some (.lst vs) ∧ RepL mg H ds vs f ∧ fp = a :: f
  | .scr ds, v, fp => ∃ a vs, v = .ref a ∧ ScrAt mg.K H a vs ∧ RepL mg H ds vs [] ∧ fp = []
  | .dic tk ks ds, v, fp => ∃ a vs f, v = .ref a ∧ RdD H a tk ks vs ∧ RepL mg H ds vs f ∧ fp = a :: f
  | .obj c ns ds, v, fp => ∃ a C dx vs f, v = .ref a ∧ mg.mg c = some (.ref C) ∧ ns.length = vs.length ∧ H a = some (.ins C dx (ns.zip vs)) ∧ RepL mg H ds vs f ∧ fp = a :: f
def RepL (mg : Mg) (H : Hp) : List D → List V → List Addr → Prop
  | [], vs, fp => vs = [] ∧ fp = []
  | d :: ds, vs, fp => ∃ v r f1 f2, vs = v :: r ∧ Rep mg H d v f1 ∧ RepL mg H ds r f2 ∧ fp = f1 ++ f2
end

section
variable {mg : Mg} {H H' : Hp}

theorem RepL.length : ∀ {ds : List D} {vs : List V} {fp : List Addr}, RepL mg H ds vs fp → vs.length = ds.length
  | [], _, _, h => by simp only [RepL] at h; rw [h.1]; rfl
  | d :: ds, _, _, h => by
    simp only [RepL] at h
    obtain ⟨v, r, f1, f2, rfl, _, h2, _⟩ := h
    simp [RepL.length h2]

theorem RdD.keep {a : Addr} {tk : Bool} {ks : List Ky} {vs : List V} (h : RdD H a tk ks vs) (k : ∀ u : HO, u.bare → Rd H a u → Rd H' a u) : RdD H' a tk ks vs := by
  obtain ⟨h1, h2⟩ := h
  refine ⟨h1, ?_⟩
  cases tk with
  | false => obtain ⟨kl, e, r⟩ := h2; exact ⟨kl, e, k _ trivial r⟩
  | true => obtain ⟨kl, e, r⟩ := h2; exact ⟨kl, e, k _ trivial r⟩

mutual
theorem Rep.keep : ∀ {d : D} {v : V} {fp : List Addr}, Rep mg H d v fp → (∀ a, a ∈ fp → Kp H H' a) → KpT H H' → Rep mg H' d v fp
  | .non, _, _, h, _, _ => by simp only [Rep] at h ⊢; exact h
  | .bl _, _, _, h, _, _ => by simp only [Rep] at h ⊢; exact h
  | .int _, _, _, h, _, _ => by simp only [Rep] at h ⊢; exact h
  | .str _, _, _, h, _, _ => by simp only [Rep] at h ⊢; exact h
  | .fn _, _, _, h, _, _ => by simp only [Rep] at h ⊢; exact h
  | .ktx _, _, _, h, _, _ => by simp only [Rep] at h ⊢; exact h
  | .dix ks ds, _, _, h, k, kt => by
    simp only [Rep] at h ⊢
    obtain ⟨a, xs, rfl, ⟨r, c1, c2⟩, h1, h2, rfl⟩ := h
    exact ⟨a, xs, rfl, ⟨(k a List.mem_cons_self).1 _ trivial r, c1, c2⟩, RepL.keep h1 (fun b hb => nomatch hb) kt, RepL.keep h2 (fun b hb => nomatch hb) kt, rfl⟩
  | .clo x ds, _, _, h, k, kt => by
    simp only [Rep] at h ⊢
    obtain ⟨f, rfl, r, h2, rfl⟩ := h
    exact ⟨f, rfl, (k x.c List.mem_cons_self).1 _ trivial r, RepL.keep h2 (fun b hb => k b (List.mem_cons_of_mem _ hb)) kt, rfl⟩
  | .kti _, _, _, h, _, kt => by
    simp only [Rep] at h ⊢
    obtain ⟨⟨a, o, e, r, d⟩, z⟩ := h
    exact ⟨⟨a, o, e, kt.2.2 a o _ r, d⟩, z⟩
  | .tup ds, _, _, h, k, kt => by
    simp only [Rep] at h ⊢
    obtain ⟨a, vs, rfl, r, h2⟩ := h
    exact ⟨a, vs, rfl, kt.1 a vs r, RepL.keep h2 k kt⟩
  | .lst ds, _, _, h, k, kt => by
    simp only [Rep] at h ⊢
    obtain ⟨a, vs, f, rfl, r, h2, rfl⟩ := h
    exact ⟨a, vs, f, rfl, (k a List.mem_cons_self).2.1 _ r, RepL.keep h2 (fun b hb => k b (List.mem_cons_of_mem _ hb)) kt, rfl⟩
  | .scr ds, _, _, h, k, kt => by
    simp only [Rep] at h ⊢
    obtain ⟨a, vs, rfl, r, h2, rfl⟩ := h
    exact ⟨a, vs, rfl, r.imp (fun ⟨o, r⟩ => ⟨o, kt.2.1 a o vs r⟩) id, RepL.keep h2 (fun b hb => nomatch hb) kt, rfl⟩
  | .dic tk ks ds, _, _, h, k, kt => by
    simp only [Rep] at h ⊢
    obtain ⟨a, vs, f, rfl, r, h2, rfl⟩ := h
    exact ⟨a, vs, f, rfl, r.keep (k a List.mem_cons_self).1, RepL.keep h2 (fun b hb => k b (List.mem_cons_of_mem _ hb)) kt, rfl⟩
  | .obj c ns ds, _, _, h, k, kt => by
    simp only [Rep] at h ⊢
    obtain ⟨a, C, dx, vs, f, rfl, hc, hl, r, h2, rfl⟩ := h
    exact ⟨a, C, dx, vs, f, rfl, hc, hl, (k a List.mem_cons_self).2.2 _ _ _ r, RepL.keep h2 (fun b hb => k b (List.mem_cons_of_mem _ hb)) kt, rfl⟩
theorem RepL.keep : ∀ {ds : List D} {vs : List V} {fp : List Addr}, RepL mg H ds vs fp → (∀ a, a ∈ fp → Kp H H' a) → KpT H H' → RepL mg H' ds vs fp
  | [], _, _, h, _, _ => by simp only [RepL] at h ⊢; exact h
  | d :: ds, _, _, h, k, kt => by
    simp only [RepL] at h ⊢
    obtain ⟨v, r, f1, f2, rfl, h1, h2, rfl⟩ := h
    exact ⟨v, r, f1, f2, rfl, Rep.keep h1 (fun b hb => k b (List.mem_append_left _ hb)) kt, RepL.keep h2 (fun b hb => k b (List.mem_append_right _ hb)) kt, rfl⟩
end


mutual
theorem Rep.there : ∀ {d : D} {v : V} {fp : List Addr}, Rep mg H d v fp → ∀ a ∈ fp, H a ≠ none
  | .non, _, _, h, a, ha => by simp only [Rep] at h; rw [h.2] at ha; cases ha
  | .bl _, _, _, h, a, ha => by simp only [Rep] at h; rw [h.2] at ha; cases ha
  | .int _, _, _, h, a, ha => by simp only [Rep] at h; rw [h.2] at ha; cases ha
  | .str _, _, _, h, a, ha => by simp only [Rep] at h; rw [h.2] at ha; cases ha
  | .fn _, _, _, h, a, ha => by simp only [Rep] at h; rw [h.2] at ha; cases ha
  | .ktx _, _, _, h, a, ha => by simp only [Rep] at h; rw [h.2] at ha; cases ha
  | .dix ks ds, _, _, h, a, ha => by
    simp only [Rep] at h
    obtain ⟨b, xs, rfl, ⟨r, _⟩, _, _, rfl⟩ := h
    rw [List.mem_singleton.mp ha]
    rcases r with r | ⟨o, r⟩ <;> rw [r] <;> simp
  | .kti _, _, _, h, a, ha => by simp only [Rep] at h; rw [h.2] at ha; cases ha
  | .clo x ds, _, _, h, a, ha => by
    simp only [Rep] at h
    obtain ⟨f, rfl, r, h2, rfl⟩ := h
    rcases List.mem_cons.mp ha with rfl | ha
    · rcases r with r | ⟨o, r⟩ <;> rw [r] <;> simp
    · exact RepL.there h2 a ha
  | .tup ds, _, _, h, a, ha => by
    simp only [Rep] at h
    obtain ⟨_, vs, rfl, r, h2⟩ := h
    exact RepL.there h2 a ha
  | .lst ds, _, _, h, a, ha => by
    simp only [Rep] at h
    obtain ⟨b, vs, f, rfl, r, h2, rfl⟩ := h
    rcases List.mem_cons.mp ha with rfl | ha
    · rw [r]; simp
    · exact RepL.there h2 a ha
  | .scr ds, _, _, h, a, ha => by
    simp only [Rep] at h
    obtain ⟨b, vs, rfl, r, h2, rfl⟩ := h
    cases ha
  | .dic tk ks ds, _, _, h, a, ha => by
    simp only [Rep] at h
    obtain ⟨b, vs, f, rfl, ⟨_, r⟩, h2, rfl⟩ := h
    rcases List.mem_cons.mp ha with rfl | ha
    · cases tk with
      | false => obtain ⟨_, _, r | ⟨o, r⟩⟩ := r <;> rw [r] <;> simp
      | true => obtain ⟨_, _, r | ⟨o, r⟩⟩ := r <;> rw [r] <;> simp
    · exact RepL.there h2 a ha
  | .obj c ns ds, _, _, h, a, ha => by
    simp only [Rep] at h
    obtain ⟨b, C, dx, vs, f, rfl, _, _, r, h2, rfl⟩ := h
    rcases List.mem_cons.mp ha with rfl | ha
    · rw [r]; simp
    · exact RepL.there h2 a ha
theorem RepL.there : ∀ {ds : List D} {vs : List V} {fp : List Addr}, RepL mg H ds vs fp → ∀ a ∈ fp, H a ≠ none
  | [], _, _, h, a, ha => by simp only [RepL] at h; rw [h.2] at ha; cases ha
  | d :: ds, _, _, h, a, ha => by
    simp only [RepL] at h
    obtain ⟨v, r, f1, f2, rfl, h1, h2, rfl⟩ := h
    rcases List.mem_append.mp ha with ha | ha
    · exact Rep.there h1 a ha
    · exact RepL.there h2 a ha
end

/-- all that stands stands as before -/
def Ext (H H' : Hp) : Prop := ∀ a o, H a = some o → H' a = some o
theorem Ext.refl : Ext H H := fun _ _ h => h
theorem Ext.trans {H1 : Hp} (a : Ext H H1) (b : Ext H1 H') : Ext H H' := fun c o h => b c o (a c o h)
theorem Ext.rd (e : Ext H H') {a : Addr} {u : HO} (r : Rd H a u) : Rd H' a u := by
  rcases r with r | ⟨o, r⟩
  · exact .inl (e a u r)
  · exact .inr ⟨o, e a _ r⟩
theorem Ext.nope (e : Ext H H') {a : Addr} (h : H' a = none) : H a = none := by
  cases q : H a with
  | none => rfl
  | some o => rw [e a o q] at h; cases h
theorem Ext.put {a : Addr} {o : HO} (h : H a = none) : Ext H (upd H a o) := fun b u e => by
  rw [upd_ne (ne_of_none e h)]; exact e
theorem Ext.kp (e : Ext H H') (a : Addr) : Kp H H' a := ⟨fun _ _ r => e.rd r, fun _ r => e a _ r, fun _ _ _ r => e a _ r⟩
theorem Ext.kpT (e : Ext H H') : KpT H H' := ⟨fun a xs r => e a _ r, fun a o vs r => e a _ r, fun a o vs r => e a _ r⟩
theorem Rep.ext {d : D} {v : V} {fp : List Addr} (h : Rep mg H d v fp) (e : Ext H H') : Rep mg H' d v fp := h.keep (fun a _ => e.kp a) e.kpT
theorem RepL.ext {d : List D} {v : List V} {fp : List Addr} (h : RepL mg H d v fp) (e : Ext H H') : RepL mg H' d v fp := h.keep (fun a _ => e.kp a) e.kpT

theorem RepL.get : ∀ {ds : List D} {vs : List V} {fp : List Addr} {i : Nat} {d : D}, RepL mg H ds vs fp → ds[i]? = some d → ∃ v f1 f f2, vs[i]? = some v ∧ Rep mg H d v f ∧ fp = f1 ++ f ++ f2
  | [], _, _, _, _, _, e => by simp at e
  | x :: ds, _, _, 0, d, h, e => by
    simp only [RepL] at h
    obtain ⟨v, r, f1, f2, rfl, h1, h2, rfl⟩ := h
    simp at e; subst e
    exact ⟨v, [], f1, f2, rfl, h1, rfl⟩
  | x :: ds, _, _, i + 1, d, h, e => by
    simp only [RepL] at h
    obtain ⟨v, r, f1, f2, rfl, h1, h2, rfl⟩ := h
    obtain ⟨w, g1, g, g2, e1, e2, rfl⟩ := RepL.get (i := i) (d := d) h2 (by simpa using e)
    exact ⟨w, f1 ++ g1, g, g2, by simpa using e1, e2, by simp [List.append_assoc]⟩

theorem RepL.append : ∀ {ds es : List D} {vs us : List V} {f g : List Addr}, RepL mg H ds vs f → RepL mg H es us g → RepL mg H (ds ++ es) (vs ++ us) (f ++ g)
  | [], _, _, _, _, _, h, h' => by
    simp only [RepL] at h
    obtain ⟨rfl, rfl⟩ := h
    exact h'
  | d :: ds, es, _, us, _, g, h, h' => by
    simp only [RepL] at h
    obtain ⟨v, r, f1, f2, rfl, h1, h2, rfl⟩ := h
    simp only [List.cons_append, RepL]
    exact ⟨v, r ++ us, f1, f2 ++ g, rfl, h1, RepL.append h2 h', by simp [List.append_assoc]⟩
theorem RepL.one {d : D} {v : V} {f : List Addr} (h : Rep mg H d v f) : RepL mg H [d] [v] f := by
  simp only [RepL]
  exact ⟨v, [], f, [], rfl, h, ⟨rfl, rfl⟩, by simp⟩

end
end VV

/-! ## VExp -/
namespace VV
open PySem PySem.Spec PyProof.Rows L2

/-- kinds of slots -/
inductive Kd where
  | dead | flat | lab (rt : Option Nat) (L : List Nat) (nd : Bool)
  /-- the exception that is handled, at a, of the class c -/
  | exc (a : Addr) (c : Str)
  /-- an instance that is being made: its label, the labels below each attribute -/
  | ob (n : Nat) (Ls : List (List Nat))
  /-- an instance that holds a dict with texts as keys, its only attribute: the instance's label, the dict's, the labels of the values; fl: it is the def's own argument -/
  | dk (fl : Bool) (n l : Nat) (L : List Nat)
  /-- a list of two things, each of its own kind: the list's label -/
  | pr (p : Nat) (k1 k2 : Kd)
  /-- a tree of its own, no node twice: the root's label, those below; fl: it is the def's own argument -/
  | ow (fl : Bool) (n : Nat) (L : List Nat)
  deriving DecidableEq
/-- where a result's root comes from -/
inductive Rt where
  | new | old (n : Nat) | unk
  deriving DecidableEq
/-- kinds of results -/
inductive Md where
  | flat | al (fr : Bool) (rt : Rt) (L : List Nat) (nd : Bool)
  deriving DecidableEq

/-- what stands outside (the nodes of the arguments), what is locked for good while a loop walks it -/
structure Fm where
  out : Addr → Prop
  frz : Addr → Prop
def lk (LL : List Nat) (n : Nat) : Prop := n = 0 ∨ n ∈ LL
structure Loc (P : Fm) (LL : List Nat) (g : Addr → Nat) (H : Hp) : Prop where
  at_ : ∀ a, g a ≠ 0 → ∃ o, H a = some o ∧ (Mut (some o) ∨ P.frz a)
  out : ∀ a, P.out a → H a ≠ none
  fz : ∀ a, P.frz a → (∃ o u, H a = some (.frz o u)) ∧ lk LL (g a)

theorem Loc.fzn {P : Fm} {LL : List Nat} {g : Addr → Nat} {H : Hp} (l : Loc P LL g H) {a : Addr} (h : P.frz a) : H a ≠ none := by
  obtain ⟨⟨o, u, q⟩, _⟩ := l.fz a h
  rw [q]; simp

def Old (P : Fm) (g : Addr → Nat) (L : List Nat) (a : Addr) : Prop := g a ∈ L ∧ (g a = 0 → P.out a)
theorem Old.there {P : Fm} {LL : List Nat} {g : Addr → Nat} {H : Hp} {L : List Nat} {a : Addr} (l : Loc P LL g H) (o : Old P g L a) : H a ≠ none := by
  by_cases h : g a = 0
  · exact l.out a (o.2 h)
  · obtain ⟨u, e, _⟩ := l.at_ a h
    rw [e]; simp

/-- made since -/
def New (H H' : Hp) (a : Addr) : Prop := H a = none ∧ Mut (H' a)
/-- no node twice; the root not below itself -/
def Nd (nd kn : Bool) (v : V) (fp : List Addr) : Prop := (nd = true → fp.Nodup) ∧ (kn = true → ∀ a f, v = .ref a → fp = a :: f → a ∉ f)
theorem Nd.of {nd kn : Bool} {v : V} {fp : List Addr} (h : fp.Nodup) : Nd nd kn v fp := ⟨fun _ => h, fun _ a f _ e => by subst e; exact (List.nodup_cons.mp h).1⟩
theorem Nd.cons {nd kn : Bool} {p : Addr} {fp : List Addr} (h : p ∉ fp) (n : nd = true → fp.Nodup) : Nd nd kn (.ref p) (p :: fp) :=
  ⟨fun x => List.nodup_cons.mpr ⟨h, n x⟩, fun _ a f e1 e2 => by cases e2; exact h⟩
theorem Nd.unk {nd : Bool} {v : V} {fp : List Addr} (n : nd = true → fp.Nodup) : Nd nd false v fp := ⟨n, fun z => nomatch z⟩
def Rt.known : Rt → Bool
  | .unk => false
  | _ => true
/-- trees, values and nodes, one by one -/
def RepS (R : D → V → List Addr → Prop) : List D → List V → List (List Addr) → Prop
  | [], [], [] => True
  | d :: ds, v :: vs, f :: fs => R d v f ∧ RepS R ds vs fs
  | _, _, _ => False
def FpS (R : Addr → List Nat → Prop) : List (List Addr) → List (List Nat) → Prop
  | [], [] => True
  | f :: fs, L :: Ls => (∀ b ∈ f, R b L) ∧ FpS R fs Ls
  | _, _ => False
theorem RepS.mono {R R' : D → V → List Addr → Prop} : ∀ {ds : List D} {vs : List V} {fs : List (List Addr)}, RepS R ds vs fs → (∀ d v f, R d v f → R' d v f) → RepS R' ds vs fs
  | [], [], [], _, _ => trivial
  | _ :: _, _ :: _, _ :: _, h, k => ⟨k _ _ _ h.1, RepS.mono h.2 k⟩
  | [], _ :: _, _, h, _ => h.elim
  | [], [], _ :: _, h, _ => h.elim
  | _ :: _, [], _, h, _ => h.elim
  | _ :: _, _ :: _, [], h, _ => h.elim
theorem RepS.monoF {R R' : D → V → List Addr → Prop} : ∀ {ds : List D} {vs : List V} {fs : List (List Addr)}, RepS R ds vs fs → (∀ d v f, f ∈ fs → R d v f → R' d v f) → RepS R' ds vs fs
  | [], [], [], _, _ => trivial
  | _ :: _, _ :: _, _ :: _, h, k => ⟨k _ _ _ List.mem_cons_self h.1, RepS.monoF h.2 fun d v f hf => k d v f (List.mem_cons_of_mem _ hf)⟩
  | [], _ :: _, _, h, _ => h.elim
  | [], [], _ :: _, h, _ => h.elim
  | _ :: _, [], _, h, _ => h.elim
  | _ :: _, _ :: _, [], h, _ => h.elim
theorem FpS.mono {R R' : Addr → List Nat → Prop} : ∀ {fs : List (List Addr)} {Ls : List (List Nat)}, FpS R fs Ls → (∀ b L, R b L → R' b L) → FpS R' fs Ls
  | [], [], _, _ => trivial
  | _ :: _, _ :: _, h, k => ⟨fun b hb => k b _ (h.1 b hb), FpS.mono h.2 k⟩
  | [], _ :: _, h, _ => h.elim
  | _ :: _, [], h, _ => h.elim
theorem FpS.mem {R : Addr → List Nat → Prop} : ∀ {fs : List (List Addr)} {Ls : List (List Nat)} {f : List Addr} {b : Addr}, FpS R fs Ls → f ∈ fs → b ∈ f → ∃ L ∈ Ls, R b L
  | [], _, _, _, _, hf, _ => nomatch hf
  | _ :: _, _ :: _, _, _, h, hf, hb => by
    rcases List.mem_cons.mp hf with rfl | hf
    · exact ⟨_, List.mem_cons_self, h.1 _ hb⟩
    · obtain ⟨L, h1, h2⟩ := FpS.mem h.2 hf hb
      exact ⟨L, List.mem_cons_of_mem _ h1, h2⟩
  | _ :: _, [], _, _, h, _, _ => h.elim
/-- an instance at a, its dict at b -/
def DkAt (mg : Mg) (H : Hp) (d : D) (a b : Addr) (F : List Addr) : Prop := ∃ (C dx : Addr) (c f : Str) (ks : List Ky) (vs : List V) (ds : List D), d = .obj c [f] [.dic false ks ds] ∧ mg.mg c = some (.ref C) ∧ H a = some (.ins C dx [(f, .ref b)]) ∧ RdD H b false ks vs ∧ RepL mg H ds vs F
theorem DkAt.keep {mg : Mg} {H H' : Hp} {d : D} {a b : Addr} {F : List Addr} (h : DkAt mg H d a b F) (k : ∀ x, x ∈ a :: b :: F → Kp H H' x) (kt : KpT H H') : DkAt mg H' d a b F := by
  obtain ⟨C, dx, c, f, ks, vs, ds, e, hc, r, rd, rl⟩ := h
  exact ⟨C, dx, c, f, ks, vs, ds, e, hc, (k a (by simp)).2.2 _ _ _ r, rd.keep (k b (by simp)).1, rl.keep (fun x hx => k x (by simp [hx])) kt⟩
theorem DkAt.ext {mg : Mg} {H H' : Hp} {d : D} {a b : Addr} {F : List Addr} (h : DkAt mg H d a b F) (e : Ext H H') : DkAt mg H' d a b F := h.keep (fun x _ => e.kp x) e.kpT
def CellOk (mg : Mg) (P : Fm) (g : Addr → Nat) (H : Hp) : Kd → D → Option V → Prop
  | .dead, _, _ => True
  | .exc a c, d, ov => d = .str c ∧ ov = some (.ref a)
  | .ob n Ls, d, ov => ∃ (a C dx : Addr) (c : Str) (ns : List Str) (vs : List V) (ds : List D) (fps : List (List Addr)), d = .obj c ns ds ∧ ov = some (.ref a) ∧ mg.mg c = some (.ref C) ∧ ns.length = vs.length ∧ H a = some (.ins C dx (ns.zip vs)) ∧ (Old P g [n] a ∧ P.out a) ∧
      RepS (Rep mg H) ds vs fps ∧ FpS (fun b L => Old P g L b) fps Ls ∧ (a :: fps.flatten).Nodup
  | .dk fl n l L, d, ov => ∃ (a b : Addr) (F : List Addr), ov = some (.ref a) ∧ DkAt mg H d a b F ∧ Old P g [n] a ∧ Old P g [l] b ∧ (∀ x ∈ F, Old P g L x) ∧ (fl = true → P.out a ∧ P.out b)
  | .pr p k1 k2, d, ov => ∃ (a : Addr) (d1 d2 : D) (v1 v2 : V), d = .lst [d1, d2] ∧ ov = some (.ref a) ∧ H a = some (.lst [v1, v2]) ∧ Old P g [p] a ∧ CellOk mg P g H k1 d1 (some v1) ∧ CellOk mg P g H k2 d2 (some v2)
  | .ow fl n L, d, ov => ∃ (a : Addr) (f : List Addr), ov = some (.ref a) ∧ Rep mg H d (.ref a) (a :: f) ∧ (a :: f).Nodup ∧ Old P g [n] a ∧ (∀ x ∈ f, Old P g L x) ∧ (fl = true → P.out a)
  | .flat, d, ov => ∃ v, ov = some v ∧ Rep mg H d v []
  | .lab rt L nd, d, ov => ∃ v fp, ov = some v ∧ Rep mg H d v fp ∧ (∀ a ∈ fp, (v = .ref a ∧ ∃ n, rt = some n ∧ Old P g [n] a) ∨ ((v ≠ .ref a ∨ rt = none) ∧ Old P g L a)) ∧ Nd nd rt.isSome v fp

def Cells (mg : Mg) (P : Fm) (g : Addr → Nat) (H : Hp) : List Kd → List D → List (Option V) → Prop
  | [], [], [] => True
  | k :: Γ, d :: ρ, v :: σ => CellOk mg P g H k d v ∧ Cells mg P g H Γ ρ σ
  | _, _, _ => False

structure Sta (mg : Mg) (P : Fm) (LL : List Nat) (Γ : List Kd) (g : Addr → Nat) (ρ : List D) (σ : L2.St) (H : Hp) : Prop where
  loc : Loc P LL g H
  cells : Cells mg P g H Γ ρ σ

/-- the nodes of a result -/
def Nds (P : Fm) (g : Addr → Nat) (H H' : Hp) (fr : Bool) (rt : Rt) (L : List Nat) (nd : Bool) (v : V) (fp : List Addr) : Prop :=
  (∀ a ∈ fp, (v = .ref a ∧ match rt with | .new => New H H' a | .old n => Old P g [n] a | .unk => False) ∨ ((v ≠ .ref a ∨ rt = .unk) ∧ ((fr = true ∧ New H H' a) ∨ Old P g L a))) ∧ Nd nd rt.known v fp
/-- a result -/
def Val (mg : Mg) (P : Fm) (g : Addr → Nat) (H H' : Hp) : Md → D → V → Prop
  | .flat, d, v => Rep mg H' d v []
  | .al fr rt L nd, d, v => ∃ fp, Rep mg H' d v fp ∧ Nds P g H H' fr rt L nd v fp
/-- several -/
def Fps (P : Fm) (g : Addr → Nat) (H H' : Hp) : Md → List Addr → Prop
  | .flat, fp => fp = []
  | .al fr _ L nd, fp => (∀ a ∈ fp, (fr = true ∧ New H H' a) ∨ Old P g L a) ∧ (nd = true → fp.Nodup)
def ValL (mg : Mg) (P : Fm) (g : Addr → Nat) (H H' : Hp) (m : Md) (ds : List D) (vs : List V) : Prop := ∃ fp, RepL mg H' ds vs fp ∧ Fps P g H H' m fp

section
variable {mg : Mg} {P : Fm} {LL : List Nat} {Γ : List Kd} {g : Addr → Nat} {ρ : List D} {σ : L2.St} {H H' H1 : Hp}

theorem mut_of {o : Option HO} {o' : Option HO} (h : Mut o) (e : ∀ u, o = some u → o' = some u) : Mut o' := by
  cases o with
  | none => exact h.elim
  | some u => rw [e u rfl]; exact h

theorem Loc.ext (l : Loc P LL g H) (e : Ext H H') : Loc P LL g H' := ⟨fun a h => let ⟨o, q, m⟩ := l.at_ a h; ⟨o, e a o q, m⟩, fun a h z => l.out a h (e.nope z), fun a h => ⟨let ⟨⟨o, u, q⟩, _⟩ := l.fz a h; ⟨o, u, e a _ q⟩, (l.fz a h).2⟩⟩
theorem CellOk.ext {k : Kd} {d : D} {v : Option V} (c : CellOk mg P g H k d v) (e : Ext H H') : CellOk mg P g H' k d v := by
  induction k generalizing d v with
  | dead => trivial
  | exc _ _ => exact c
  | pr p k1 k2 i1 i2 =>
    obtain ⟨a, d1, d2, v1, v2, e0, e1, r, o, c1, c2⟩ := c
    exact ⟨a, d1, d2, v1, v2, e0, e1, e a _ r, o, i1 c1, i2 c2⟩
  | ob n Ls =>
    obtain ⟨a, C, dx, c, ns, vs, ds, fps, rfl, rfl, hc, hl, r, o, rs, fs, nd⟩ := c
    exact ⟨a, C, dx, c, ns, vs, ds, fps, rfl, rfl, hc, hl, e a _ r, o, rs.mono fun d v f h => h.ext e, fs, nd⟩
  | dk fl n l L =>
    obtain ⟨a, b, F, e0, r, q⟩ := c
    exact ⟨a, b, F, e0, r.ext e, q⟩
  | ow fl n L =>
    obtain ⟨a, f, e0, r, q⟩ := c
    exact ⟨a, f, e0, r.ext e, q⟩
  | flat => obtain ⟨v, rfl, r⟩ := c; exact ⟨v, rfl, r.ext e⟩
  | lab rt L nd => obtain ⟨v, fp, rfl, r, q⟩ := c; exact ⟨v, fp, rfl, r.ext e, q⟩
theorem New.ext {a : Addr} (n : New H H1 a) (e : Ext H1 H') : New H H' a := ⟨n.1, mut_of n.2 (e a)⟩
theorem New.back {a : Addr} (n : New H1 H' a) (e : Ext H H1) : New H H' a := ⟨e.nope n.1, n.2⟩
theorem Cells.ext (e : Ext H H') : ∀ {Γ : List Kd} {ρ : List D} {σ : L2.St}, Cells mg P g H Γ ρ σ → Cells mg P g H' Γ ρ σ
  | [], [], [], _ => trivial
  | _ :: _, _ :: _, _ :: _, h => ⟨h.1.ext e, Cells.ext e h.2⟩
  | [], _ :: _, _, h => h.elim
  | [], [], _ :: _, h => h.elim
  | _ :: _, [], _, h => h.elim
  | _ :: _, _ :: _, [], h => h.elim
theorem Sta.ext (s : Sta mg P LL Γ g ρ σ H) (e : Ext H H') : Sta mg P LL Γ g ρ σ H' := ⟨s.loc.ext e, s.cells.ext e⟩

theorem Cells.get : ∀ {Γ : List Kd} {ρ : List D} {σ : L2.St} {i : Nat} {k : Kd}, Cells mg P g H Γ ρ σ → Γ[i]? = some k → ∃ d ov, ρ[i]? = some d ∧ σ[i]? = some ov ∧ CellOk mg P g H k d ov
  | [], _, _, _, _, _, e => by simp at e
  | k :: Γ, d :: ρ, v :: σ, 0, k', h, e => by simp at e; subst e; exact ⟨d, v, rfl, rfl, h.1⟩
  | k :: Γ, d :: ρ, v :: σ, i + 1, k', h, e => by
    obtain ⟨d', ov, h1, h2, h3⟩ := Cells.get (i := i) (k := k') h.2 (by simpa using e)
    exact ⟨d', ov, by simpa using h1, by simpa using h2, h3⟩
  | _ :: _, [], _, _, _, h, _ => h.elim
  | _ :: _, _ :: _, [], _, _, h, _ => h.elim

theorem Nds.ext {fr : Bool} {rt : Rt} {L : List Nat} {nd : Bool} {v : V} {fp : List Addr} (h : Nds P g H H1 fr rt L nd v fp) (e : Ext H1 H') : Nds P g H H' fr rt L nd v fp := by
  refine ⟨fun a ha => ?_, h.2⟩
  rcases h.1 a ha with ⟨x, y⟩ | ⟨z, ⟨x, n⟩ | o⟩
  · refine .inl ⟨x, ?_⟩
    cases rt with
    | new => exact New.ext y e
    | old n => exact y
    | unk => exact y
  · exact .inr ⟨z, .inl ⟨x, n.ext e⟩⟩
  · exact .inr ⟨z, .inr o⟩
theorem Nds.back {fr : Bool} {rt : Rt} {L : List Nat} {nd : Bool} {v : V} {fp : List Addr} (h : Nds P g H1 H' fr rt L nd v fp) (e : Ext H H1) : Nds P g H H' fr rt L nd v fp := by
  refine ⟨fun a ha => ?_, h.2⟩
  rcases h.1 a ha with ⟨x, y⟩ | ⟨z, ⟨x, n⟩ | o⟩
  · refine .inl ⟨x, ?_⟩
    cases rt with
    | new => exact New.back y e
    | old n => exact y
    | unk => exact y
  · exact .inr ⟨z, .inl ⟨x, n.back e⟩⟩
  · exact .inr ⟨z, .inr o⟩
theorem Val.ext {m : Md} {d : D} {v : V} (h : Val mg P g H H1 m d v) (e : Ext H1 H') : Val mg P g H H' m d v := by
  cases m with
  | flat => exact Rep.ext h e
  | al fr rt L nd =>
    obtain ⟨fp, r, q⟩ := h
    exact ⟨fp, r.ext e, q.ext e⟩
theorem Fps.ext {m : Md} {fp : List Addr} (h : Fps P g H H1 m fp) (e : Ext H1 H') : Fps P g H H' m fp := by
  cases m with
  | flat => exact h
  | al fr rt L nd => exact ⟨fun a ha => (h.1 a ha).imp (fun ⟨x, n⟩ => ⟨x, n.ext e⟩) id, h.2⟩
theorem Fps.back {m : Md} {fp : List Addr} (h : Fps P g H1 H' m fp) (e : Ext H H1) : Fps P g H H' m fp := by
  cases m with
  | flat => exact h
  | al fr rt L nd => exact ⟨fun a ha => (h.1 a ha).imp (fun ⟨x, n⟩ => ⟨x, n.back e⟩) id, h.2⟩
/-- seen from an earlier heap -/
theorem Val.back {m : Md} {d : D} {v : V} (h : Val mg P g H1 H' m d v) (e : Ext H H1) : Val mg P g H H' m d v := by
  cases m with
  | flat => exact h
  | al fr rt L nd => obtain ⟨fp, r, q⟩ := h; exact ⟨fp, r, q.back e⟩
end

/-! ### expressions -/
abbrev Ev := List D → Option D
def EX (X : Cx) (LL : List Nat) (Γ : List Kd) (e : Expr) (sem : Ev) (m : Md) : Prop :=
  ∃ t, PE X e t ∧ ∀ P g ρ σ H d Q, Sta X.vm P LL Γ g ρ σ H → sem ρ = some d → (∀ v H', Ext H H' → Val X.vm P g H H' m d v → Q v H') → t σ H Q
def EA (X : Cx) (LL : List Nat) (Γ : List Kd) (es : List Expr) (sem : List D → Option (List D)) (m : Md) : Prop :=
  (∀ ρ ds, sem ρ = some ds → ds.length = es.length) ∧ ∃ t, PA X es t ∧ ∀ P g ρ σ H ds Q, Sta X.vm P LL Γ g ρ σ H → sem ρ = some ds → (∀ vs H', Ext H H' → ValL X.vm P g H H' m ds vs → Q vs H') → t σ H Q
def ET (X : Cx) (LL : List Nat) (Γ : List Kd) (e : Expr) (sem : List D → Option Bool) : Prop :=
  ∃ t, PT X e t ∧ ∀ P g ρ σ H b Q, Sta X.vm P LL Γ g ρ σ H → sem ρ = some b → (∀ H', Ext H H' → Q b H') → t σ H Q
def EW (X : Cx) (LL : List Nat) (Γ : List Kd) (e : Expr) (sem : List D → Option Bool) : Prop :=
  ∃ t, PW X e t ∧ ∀ P g ρ σ H b Q, Sta X.vm P LL Γ g ρ σ H → sem ρ = some b → (∀ H', Ext H H' → Q b H') → t σ H Q

/-- a slot that may be read as a tree -/
def Kd.use : Kd → Bool
  | .dead => false
  | .exc _ _ => false
  | .ob _ _ => false
  | .dk _ _ _ _ => false
  | .pr _ _ _ => false
  | .ow _ _ _ => false
  | _ => true
def Kd.md : Kd → Md
  | .dead => .flat
  | .exc _ _ => .flat
  | .ob _ _ => .flat
  | .dk _ _ _ _ => .flat
  | .pr _ _ _ => .flat
  | .ow _ _ _ => .flat
  | .flat => .flat
  | .lab rt L nd => .al false (match rt with | some n => .old n | none => .unk) L nd
def disj (a b : List Nat) : Bool := a.all fun x => !b.contains x
/-- the root's place said as any node's -/
def Md.unroot : Md → Md
  | .flat => .flat
  | .al _ .new L nd => .al true .unk L nd
  | .al fr (.old n) L nd => .al fr .unk (n :: L) nd
  | .al fr .unk L nd => .al fr .unk L nd
def Md.join1 : Md → Md → Md
  | .flat, .flat => .flat
  | .al fr rt L nd, .flat => .al fr .unk L nd
  | .flat, .al fr rt L nd => .al fr .unk L nd
  | .al fr _ L nd, .al fr' _ L' nd' => .al (fr || fr') .unk (L ++ L') (nd && nd' && disj L L')
def Md.join (m m' : Md) : Md := m.unroot.join1 m'

def eVar (i : Nat) : Ev := fun ρ => ρ[i]?
def eC (d : D) : Ev := fun _ => some d
def aNil : List D → Option (List D) := fun _ => some []
def aCons (e : Ev) (r : List D → Option (List D)) : List D → Option (List D) := fun ρ => do
  let d ← e ρ
  let ds ← r ρ
  some (d :: ds)
/-- an operation on values of arguments -/
def eP (f : List D → Option D) (a : List D → Option (List D)) : Ev := fun ρ => do f (← a ρ)
def eTup (a : List D → Option (List D)) : Ev := fun ρ => do let ds ← a ρ; some (.tup ds)
def eLst (a : List D → Option (List D)) : Ev := fun ρ => do let ds ← a ρ; some (.lst ds)

theorem bind_some {α β : Type} {x : Option α} {f : α → Option β} {b : β} (h : (x >>= f) = some b) : ∃ a, x = some a ∧ f a = some b := by
  cases x with
  | none => cases h
  | some a => exact ⟨a, rfl, h⟩

section
variable {X : Cx} {LL : List Nat} {Γ : List Kd} {pos : Pos}

theorem ex_var {x : Str} {k : Kd} (i : Nat) (hk : Γ[i]? = some k) (hd : k.use = true) (hN : X.N[i]? = some x) (hv : Vis X.env.scope x) (hdb : (x == ("__debug__" : Str)) = false := by decide)
    (hcd : (x == ("__classdict__" : Str)) = false := by decide) : EX X LL Γ (.Name x pos) (eVar i) k.md := by
  refine ⟨tVar i, pe_var hN hv hdb hcd, fun P g ρ σ H d Q s hs q => ?_⟩
  obtain ⟨d', ov, h1, h2, h3⟩ := s.cells.get hk
  have e : d' = d := Option.some.inj (h1.symm.trans hs)
  subst e
  cases k with
  | dead => cases hd
  | exc _ _ => cases hd
  | ob _ _ => cases hd
  | dk _ _ _ _ => cases hd
  | pr _ _ _ => cases hd
  | ow _ _ _ => cases hd
  | flat =>
    obtain ⟨v, rfl, r⟩ := h3
    exact ⟨v, h2, q v H Ext.refl r⟩
  | lab rt L nd =>
    obtain ⟨v, fp, rfl, r, o, n⟩ := h3
    refine ⟨v, h2, q v H Ext.refl ⟨fp, r, fun a ha => ?_, by cases rt <;> exact n⟩⟩
    rcases o a ha with ⟨e, k, rfl, o'⟩ | ⟨z, o'⟩
    · exact .inl ⟨e, o'⟩
    · refine .inr ⟨?_, .inr o'⟩
      rcases z with z | rfl
      · exact .inl z
      · exact .inr rfl

theorem val_flat {mg : Mg} {P : Fm} {g : Addr → Nat} {H H' : Hp} {d : D} {v : V} (r : Rep mg H' d v []) : Val mg P g H H' .flat d v := r
theorem rep_int {mg : Mg} {H : Hp} {i : Int} : Rep mg H (.int i) (.int i) [] := by simp [Rep]
theorem rep_str {mg : Mg} {H : Hp} {i : Str} : Rep mg H (.str i) (.str i) [] := by simp [Rep]
theorem rep_bl {mg : Mg} {H : Hp} {i : Bool} : Rep mg H (.bl i) (.bl i) [] := by simp [Rep]
theorem rep_non {mg : Mg} {H : Hp} : Rep mg H .non .non [] := by simp [Rep]

theorem ex_int {i : Int} {j} : EX X LL Γ (.Constant (.int i) j pos) (eC (.int i)) .flat :=
  ⟨_, pe_int, fun P g ρ σ H d Q s hs q => by cases hs; exact q _ _ Ext.refl (val_flat rep_int)⟩
theorem ex_bl {b : Bool} {j} : EX X LL Γ (.Constant (.bool b) j pos) (eC (.bl b)) .flat :=
  ⟨_, pe_bl, fun P g ρ σ H d Q s hs q => by cases hs; exact q _ _ Ext.refl (val_flat rep_bl)⟩

theorem disj_ok {L L' : List Nat} {x : Nat} (h : disj L L' = true) (a : x ∈ L) : x ∉ L' := by
  unfold disj at h
  have := List.all_eq_true.mp h x a
  simpa using this

theorem Nds.unroot {P : Fm} {g : Addr → Nat} {H H' : Hp} {fr : Bool} {rt : Rt} {L : List Nat} {nd : Bool} {v : V} {fp : List Addr} (h : Nds P g H H' fr rt L nd v fp) : Fps P g H H' (Md.al fr rt L nd).unroot fp := by
  obtain ⟨o, n, _⟩ := h
  cases rt with
  | new =>
    refine ⟨fun a ha => ?_, n⟩
    rcases o a ha with ⟨_, x⟩ | ⟨_, ⟨_, x⟩ | x⟩
    · exact .inl ⟨rfl, x⟩
    · exact .inl ⟨rfl, x⟩
    · exact .inr x
  | old k =>
    refine ⟨fun a ha => ?_, n⟩
    rcases o a ha with ⟨_, x⟩ | ⟨_, x | x⟩
    · exact .inr ⟨by rw [List.mem_singleton.mp x.1]; exact List.mem_cons_self, x.2⟩
    · exact .inl x
    · exact .inr ⟨List.mem_cons_of_mem _ x.1, x.2⟩
  | unk =>
    refine ⟨fun a ha => ?_, n⟩
    rcases o a ha with ⟨_, x⟩ | ⟨_, x⟩
    · exact x.elim
    · exact x
theorem Val.unroot {mg : Mg} {P : Fm} {g : Addr → Nat} {H H' : Hp} {m : Md} {d : D} {v : V} (h : Val mg P g H H' m d v) : ∃ fp, Rep mg H' d v fp ∧ Fps P g H H' m.unroot fp := by
  cases m with
  | flat => exact ⟨[], h, rfl⟩
  | al fr rt L nd => obtain ⟨fp, r, o⟩ := h; exact ⟨fp, r, o.unroot⟩
theorem fps_join {P : Fm} {LL : List Nat} {g : Addr → Nat} {H H1 H2 : Hp} {m m' : Md} {f f' : List Addr} (l : Loc P LL g H) (e1 : Ext H H1) (e2 : Ext H1 H2) (h : Fps P g H H1 m f) (th : ∀ a ∈ f, H1 a ≠ none)
    (h' : Fps P g H1 H2 m' f') : Fps P g H H2 (m.join1 m') (f ++ f') := by
  have k := h.ext e2
  have k' := h'.back e1
  cases m with
  | flat =>
    obtain rfl : f = [] := h
    cases m' with
    | flat => exact k'
    | al fr rt L nd => exact k'
  | al fr rt L nd =>
    cases m' with
    | flat =>
      obtain rfl : f' = [] := h'
      rw [List.append_nil]
      exact k
    | al fr' rt' L' nd' =>
      refine ⟨fun a ha => ?_, fun hn => ?_⟩
      · rcases List.mem_append.mp ha with ha | ha
        · exact (k.1 a ha).imp (fun ⟨x, y⟩ => ⟨by rw [x]; rfl, y⟩) fun o => ⟨List.mem_append_left _ o.1, o.2⟩
        · exact (k'.1 a ha).imp (fun ⟨x, y⟩ => ⟨by rw [x]; cases fr <;> rfl, y⟩) fun o => ⟨List.mem_append_right _ o.1, o.2⟩
      · simp only [Bool.and_eq_true] at hn
        obtain ⟨⟨n1, n2⟩, dj⟩ := hn
        refine List.nodup_append.mpr ⟨h.2 n1, h'.2 n2, ?_⟩
        intro a ha b hb hab
        subst hab
        rcases h'.1 a hb with ⟨_, z, _⟩ | o'
        · exact th a ha z
        · rcases h.1 a ha with ⟨_, z, _⟩ | o
          · exact o'.there l z
          · exact disj_ok dj o.1 o'.1
theorem valL_cons {mg : Mg} {P : Fm} {LL : List Nat} {g : Addr → Nat} {H H1 H2 : Hp} {m m' : Md} {d : D} {ds : List D} {v : V} {vs : List V} (l : Loc P LL g H)
    (e1 : Ext H H1) (e2 : Ext H1 H2) (h : Val mg P g H H1 m d v) (h' : ValL mg P g H1 H2 m' ds vs) : ValL mg P g H H2 (m.join m') (d :: ds) (v :: vs) := by
  obtain ⟨f, r, o⟩ := h.unroot
  obtain ⟨f', r', o'⟩ := h'
  refine ⟨f ++ f', ?_, fps_join l e1 e2 o (fun a ha => r.there a ha) o'⟩
  simp only [RepL]
  exact ⟨v, vs, f, f', rfl, r.ext e2, r', rfl⟩
theorem valL_nil {mg : Mg} {P : Fm} {g : Addr → Nat} {H H' : Hp} : ValL mg P g H H' .flat [] [] := ⟨[], by simp [RepL], rfl⟩

theorem ea_nil : EA X LL Γ [] aNil .flat := ⟨fun ρ ds h => by cases h; rfl, _, pa_nil, fun P g ρ σ H ds Q s hs q => by
  cases hs
  exact q [] H Ext.refl valL_nil⟩
theorem ea_cons {e : Expr} {es : List Expr} {se : Ev} {sr : List D → Option (List D)} {m m' : Md} (h : EX X LL Γ e se m) (h' : EA X LL Γ es sr m')
    (hs : starEach (e :: es) X.env = (false, eval e X.env) :: starEach es X.env := by rfl) : EA X LL Γ (e :: es) (aCons se sr) (m.join m') := by
  obtain ⟨t, ht, k⟩ := h
  obtain ⟨hl, u, hu, k'⟩ := h'
  refine ⟨fun ρ ds e => by
    obtain ⟨d, e1, e⟩ := bind_some e
    obtain ⟨dr, e2, e⟩ := bind_some e
    cases e
    simp [hl ρ dr e2], _, pa_cons ht hu hs, fun P g ρ σ H ds Q s e q => ?_⟩
  obtain ⟨d, e1, e⟩ := bind_some e
  obtain ⟨dr, e2, e⟩ := bind_some e
  cases e
  refine k P g ρ σ H d _ s e1 fun v H1 x1 v1 => ?_
  refine k' P g ρ σ H1 dr _ (s.ext x1) e2 fun vs H2 x2 v2 => ?_
  exact q (v :: vs) H2 (x1.trans x2) (valL_cons s.loc x1 x2 v1 v2)

def Md.tup : Md → Md
  | .flat => .flat
  | .al fr _ L nd => .al fr .unk L nd
def Md.lst : Md → Md
  | .flat => .al false .new [] true
  | .al fr _ L nd => .al fr .new L nd

theorem val_tup {mg : Mg} {P : Fm} {g : Addr → Nat} {H H1 : Hp} {m : Md} {ds : List D} {vs : List V} {p : Addr} (h : ValL mg P g H H1 m ds vs) (hp : H1 p = none) :
    Val mg P g H (upd H1 p (.tup vs)) m.tup (.tup ds) (.ref p) := by
  have x : Ext H1 (upd H1 p (.tup vs)) := Ext.put hp
  obtain ⟨fp, r, q⟩ := h
  have rr : Rep mg (upd H1 p (.tup vs)) (.tup ds) (.ref p) fp := by
    simp only [Rep]
    exact ⟨p, vs, rfl, upd_same, r.ext x⟩
  have q := q.ext x
  cases m with
  | flat =>
    obtain rfl : fp = [] := q
    exact rr
  | al fr rt L nd => exact ⟨fp, rr, fun a ha => .inr ⟨.inr rfl, q.1 a ha⟩, .unk q.2⟩
theorem val_lst {mg : Mg} {P : Fm} {g : Addr → Nat} {H H1 : Hp} {m : Md} {ds : List D} {vs : List V} {p : Addr} (h : ValL mg P g H H1 m ds vs) (e : Ext H H1) (hp : H1 p = none) :
    Val mg P g H (upd H1 p (.lst vs)) m.lst (.lst ds) (.ref p) := by
  have x : Ext H1 (upd H1 p (.lst vs)) := Ext.put hp
  have mu : New H (upd H1 p (.lst vs)) p := ⟨e.nope hp, by rw [upd_same]; trivial⟩
  obtain ⟨fp, r, q⟩ := h
  have rr : Rep mg (upd H1 p (.lst vs)) (.lst ds) (.ref p) (p :: fp) := by
    simp only [Rep]
    exact ⟨p, vs, fp, rfl, upd_same, r.ext x, rfl⟩
  have hn : p ∉ fp := fun hm => r.there p hm hp
  have q := q.ext x
  cases m with
  | flat =>
    obtain rfl : fp = [] := q
    refine ⟨[p], rr, fun a ha => ?_, .of (by simp)⟩
    rw [List.mem_singleton.mp ha]
    exact .inl ⟨rfl, mu⟩
  | al fr rt L nd =>
    refine ⟨p :: fp, rr, fun a ha => ?_, .cons hn q.2⟩
    rcases List.mem_cons.mp ha with rfl | ha
    · exact .inl ⟨rfl, mu⟩
    · exact .inr ⟨.inl fun e => by cases e; exact hn ha, q.1 a ha⟩

theorem ValL.length {mg : Mg} {P : Fm} {g : Addr → Nat} {H H1 : Hp} {m : Md} {ds : List D} {vs : List V} (h : ValL mg P g H H1 m ds vs) : vs.length = ds.length := let ⟨_, r, _⟩ := h; r.length

theorem ex_tup {es : List Expr} {k} {sem : List D → Option (List D)} {m : Md} (h : EA X LL Γ es sem m) (hl : es.length ≤ 1000 := by decide) : EX X LL Γ (.Tuple es k pos) (eTup sem) m.tup := by
  obtain ⟨hz, t, ht, kk⟩ := h
  refine ⟨_, pe_tup ht, fun P g ρ σ H d Q s e q => ?_⟩
  obtain ⟨ds, e1, e⟩ := bind_some e
  cases e
  refine kk P g ρ σ H ds _ s e1 fun vs H1 x1 v1 => ⟨?_, fun p hp => ?_⟩
  · rw [v1.length, hz _ _ e1]; exact Nat.le_of_lt (small1000 hl)
  · exact q _ _ (x1.trans (Ext.put hp)) (val_tup v1 hp)
theorem ex_lst {es : List Expr} {sem : List D → Option (List D)} {m : Md} (h : EA X LL Γ es sem m) (hl : es.length ≤ 1000 := by decide) : EX X LL Γ (.List es pos) (eLst sem) m.lst := by
  obtain ⟨hz, t, ht, kk⟩ := h
  refine ⟨_, pe_lst ht, fun P g ρ σ H d Q s e q => ?_⟩
  obtain ⟨ds, e1, e⟩ := bind_some e
  cases e
  refine kk P g ρ σ H ds _ s e1 fun vs H1 x1 v1 => ⟨?_, fun p hp => ?_⟩
  · rw [v1.length, hz _ _ e1]; exact Nat.le_of_lt (small1000 hl)
  · exact q _ _ (x1.trans (Ext.put hp)) (val_lst v1 x1 hp)
end
end VV

/-! ## VOps -/
namespace VV
open PySem PySem.Spec PyProof.Rows L2

/-- an operation by values keeps to a function of trees -/
def CP (X : Cx) (r : List V → Hp → VK → Prop) (f : List D → Option D) (md : Md → Md) : Prop :=
  ∀ P LL g H H1 m ds vs d Q, Loc P LL g H → Ext H H1 → ValL X.vm P g H H1 m ds vs → f ds = some d → (∀ v H', Ext H1 H' → Val X.vm P g H H' (md m) d v → Q v H') → r vs H1 Q
def r2 (r : R2) : List V → Hp → VK → Prop := fun vs H Q => ∃ a b, vs = [a, b] ∧ r a b H Q
abbrev toFlat : Md → Md := fun _ => .flat

section
variable {X : Cx} {LL : List Nat} {Γ : List Kd} {pos : Pos}

/-- two arguments in a row -/
theorem two {a b : Expr} {sa sb : Ev} {ma mb : Md} (ha : EX X LL Γ a sa ma) (hb : EX X LL Γ b sb mb) :
    ∃ ta tb, PE X a ta ∧ PE X b tb ∧ ∀ P g ρ σ H ds (Q : V → V → Hp → Prop), Sta X.vm P LL Γ g ρ σ H → aCons sa (aCons sb aNil) ρ = some ds →
      (∀ d e v w H', ds = [d, e] → Ext H H' → Val X.vm P g H H' ma d v → Val X.vm P g H H' mb e w → ValL X.vm P g H H' (ma.join (mb.join .flat)) ds [v, w] → Q v w H') → ta σ H fun v H1 => tb σ H1 fun w H2 => Q v w H2 := by
  obtain ⟨ta, pa, ka⟩ := ha
  obtain ⟨tb, pb, kb⟩ := hb
  refine ⟨ta, tb, pa, pb, fun P g ρ σ H ds Q s e q => ?_⟩
  obtain ⟨d, e1, e⟩ := bind_some e
  obtain ⟨dr, e2, e⟩ := bind_some e
  cases e
  obtain ⟨d2, e3, e2⟩ := bind_some e2
  cases e2
  refine ka P g ρ σ H d _ s e1 fun v H1 x1 v1 => ?_
  refine kb P g ρ σ H1 d2 _ (s.ext x1) e3 fun w H2 x2 v2 => ?_
  refine q d d2 v w H2 rfl (x1.trans x2) (v1.ext x2) (v2.back x1) (valL_cons s.loc x1 x2 v1 ?_)
  exact valL_cons (s.loc.ext x1) x2 Ext.refl v2 valL_nil

theorem ex_bin {a b : Expr} {sa sb : Ev} {ma mb : Md} {op : Operator} {r : R2} {f : List D → Option D} {md : Md → Md} (ho : OpR X (binaryOp op) r) (hc : CP X (r2 r) f md) (ha : EX X LL Γ a sa ma) (hb : EX X LL Γ b sb mb) :
    EX X LL Γ (.BinOp a op b pos) (eP f (aCons sa (aCons sb aNil))) (md (ma.join (mb.join .flat))) := by
  obtain ⟨ta, tb, pa, pb, k⟩ := two ha hb
  refine ⟨_, pe_op ho pa pb, fun P g ρ σ H d Q s e q => ?_⟩
  obtain ⟨ds, e1, e⟩ := bind_some e
  refine k P g ρ σ H ds _ s e1 fun d1 d2 v w H' _ x va vb vl => ?_
  obtain ⟨_, _, e3, z⟩ := hc P LL g H H' _ ds _ d Q s.loc x vl e fun v2 H2 x2 w2 => q v2 H2 (x.trans x2) w2
  cases e3
  exact z
theorem ex_cmp {a b : Expr} {sa sb : Ev} {ma mb : Md} {op : CmpOp} {r : R2} {f : List D → Option D} {md : Md → Md} (ho : OpR X (compareOp op) r) (hc : CP X (r2 r) f md) (ha : EX X LL Γ a sa ma) (hb : EX X LL Γ b sb mb)
    (hm : behindInMarks op b = false) : EX X LL Γ (.Compare a [op] [b] pos) (eP f (aCons sa (aCons sb aNil))) (md (ma.join (mb.join .flat))) := by
  obtain ⟨ta, tb, pa, pb, k⟩ := two ha hb
  refine ⟨_, pe_cmpR ho pa pb hm, fun P g ρ σ H d Q s e q => ?_⟩
  obtain ⟨ds, e1, e⟩ := bind_some e
  refine k P g ρ σ H ds _ s e1 fun d1 d2 v w H' _ x va vb vl => ?_
  obtain ⟨_, _, e3, z⟩ := hc P LL g H H' _ ds _ d Q s.loc x vl e fun v2 H2 x2 w2 => q v2 H2 (x.trans x2) w2
  cases e3
  exact z
/-- a test by a value -/
def tOf (s : Ev) : List D → Option Bool := fun ρ => do match (← s ρ) with | .bl b => some b | _ => none
theorem et_cmp {a b : Expr} {sa sb : Ev} {ma mb : Md} {op : CmpOp} {r : R2} {f : List D → Option D} {md : Md → Md} (ho : OpR X (compareOp op) r) (hc : CP X (r2 r) f md) (ha : EX X LL Γ a sa ma) (hb : EX X LL Γ b sb mb)
    (hm : behindInMarks op b = false) (hf : ∀ m, md m = .flat := by intro _; rfl) : ET X LL Γ (.Compare a [op] [b] pos) (tOf (eP f (aCons sa (aCons sb aNil)))) := by
  obtain ⟨ta, tb, pa, pb, k⟩ := two ha hb
  refine ⟨_, pt_cmpR ho pa pb hm, fun P g ρ σ H c Q s e q => ?_⟩
  obtain ⟨d, e0, e⟩ := bind_some e
  obtain ⟨ds, e1, e0⟩ := bind_some e0
  refine k P g ρ σ H ds _ s e1 fun d1 d2 v w H' _ x va vb vl => ?_
  obtain ⟨_, _, e3, z⟩ := hc P LL g H H' _ ds _ d (fun x H' => ∃ k, x = .bl k ∧ Q k H') s.loc x vl e0 fun v2 H2 x2 w2 => by
    rw [hf] at w2
    cases d with
    | bl b' =>
      cases e
      have w2 : Rep _ _ _ _ _ := w2
      simp only [Rep] at w2
      exact ⟨_, w2.1, q H2 (x.trans x2)⟩
    | _ => cases e
  cases e3
  exact z
theorem et_val {a : Expr} {sa : Ev} (ha : EX X LL Γ a sa .flat) (he : ∀ whole, isTrue a X.env whole = (do let v ← whole; standAt a.pos; holding [v] (truthy v)) := by intro _; rfl) : ET X LL Γ a (tOf sa) := by
  obtain ⟨t, p, k⟩ := ha
  refine ⟨_, pt_val p he, fun P g ρ σ H b Q s e q => ?_⟩
  obtain ⟨d, e0, e⟩ := bind_some e
  refine k P g ρ σ H d _ s e0 fun v H' x vl => ?_
  cases d with
  | bl b' =>
    cases e
    have w2 : Rep _ _ _ _ _ := vl
    simp only [Rep] at w2
    exact ⟨_, w2.1, q H' x⟩
  | _ => cases e
theorem et_w {a : Expr} {s : List D → Option Bool} (h : EW X LL Γ a s) : ET X LL Γ a s := let ⟨t, p, k⟩ := h; ⟨t, p.pt, k⟩
def wAnd (a b : List D → Option Bool) : List D → Option Bool := fun ρ => do if (← a ρ) then b ρ else some false
def wOr (a b : List D → Option Bool) : List D → Option Bool := fun ρ => do if (← a ρ) then some true else b ρ
def wNot (a : List D → Option Bool) : List D → Option Bool := fun ρ => do some (!(← a ρ))
theorem ew_or1 {a : Expr} {s : List D → Option Bool} (h : ET X LL Γ a s) : EW X LL Γ (.BoolOp .Or [a] pos) s := let ⟨t, p, k⟩ := h; ⟨t, pw_or1 p, k⟩
theorem ew_or {a b : Expr} {rest : List Expr} {s u : List D → Option Bool} (h : ET X LL Γ a s) (h' : EW X LL Γ (.BoolOp .Or (b :: rest) pos) u) : EW X LL Γ (.BoolOp .Or (a :: b :: rest) pos) (wOr s u) := by
  obtain ⟨t, p, k⟩ := h
  obtain ⟨t', p', k'⟩ := h'
  refine ⟨_, pw_or p p', fun P g ρ σ H c Q st e q => ?_⟩
  obtain ⟨d, e0, e⟩ := bind_some e
  refine k P g ρ σ H d _ st e0 fun H' x => ?_
  cases d with
  | false => exact iteF (k' P g ρ σ H' c Q (st.ext x) (by simpa using e) fun H2 x2 => q H2 (x.trans x2))
  | true => exact iteT (by cases (by simpa using e : true = c); exact q H' x)
theorem et_not {a : Expr} {s : List D → Option Bool} (h : ET X LL Γ a s) : ET X LL Γ (.UnaryOp .Not a pos) (wNot s) := by
  obtain ⟨t, p, k⟩ := h
  refine ⟨_, pt_not p, fun P g ρ σ H c Q st e q => ?_⟩
  obtain ⟨d, e0, e⟩ := bind_some e
  refine k P g ρ σ H d _ st e0 fun H' x => ?_
  cases e
  exact q H' x

/-- calls of built-ins -/
theorem ex_callB {x : Str} {id : String} {p : Pos} {e : Expr} {es : List Expr} {r : List V → Hp → VK → Prop} {f : List D → Option D} {md : Md → Md} {sem : List D → Option (List D)} {m : Md} (hr : CallR X (.builtin id) r) (hc : CP X r f md)
    (hg : Gl X x) (hm : X.mg x = none) (hv : bootBuiltins x = some (.builtin id)) (ha : EA X LL Γ (e :: es) sem m) (hn : x ≠ "__name__" := by decide) (hdb : (x == ("__debug__" : Str)) = false := by decide)
    (he : starEach (e :: es) X.env = (false, eval e X.env) :: starEach es X.env := by rfl) (hpl : (backTo pos (starEach es X.env)).any (·.1) = false := by rfl) : EX X LL Γ (.Call (.Name x p) (e :: es) [] pos) (eP f sem) (md m) := by
  obtain ⟨_, t, pt, k⟩ := ha
  refine ⟨_, pe_callB hr hg hm hv pt hn hdb he hpl, fun P g ρ σ H d Q s e q => ?_⟩
  obtain ⟨ds, e1, e⟩ := bind_some e
  exact k P g ρ σ H ds _ s e1 fun vs H' x vl => hc P LL g H H' _ ds vs d Q s.loc x vl e fun v2 H2 x2 w2 => q v2 H2 (x.trans x2) w2
theorem ex_callTy {x : Str} {T : String} {p : Pos} {e : Expr} {es : List Expr} {r : List V → Hp → VK → Prop} {f : List D → Option D} {md : Md → Md} {sem : List D → Option (List D)} {m : Md} (hr : CallR X (.type T) r) (hc : CP X r f md)
    (hg : Gl X x) (hm : X.mg x = none) (hv : bootBuiltins x = some (.type T)) (ha : EA X LL Γ (e :: es) sem m) (hn : x ≠ "__name__" := by decide) (hdb : (x == ("__debug__" : Str)) = false := by decide)
    (he : starEach (e :: es) X.env = (false, eval e X.env) :: starEach es X.env := by rfl) (hpl : (backTo pos (starEach es X.env)).any (·.1) = false := by rfl) : EX X LL Γ (.Call (.Name x p) (e :: es) [] pos) (eP f sem) (md m) := by
  obtain ⟨_, t, pt, k⟩ := ha
  refine ⟨_, pe_callTy hr hg hm hv pt hn hdb he hpl, fun P g ρ σ H d Q s e q => ?_⟩
  obtain ⟨ds, e1, e⟩ := bind_some e
  exact k P g ρ σ H ds _ s e1 fun vs H' x vl => hc P LL g H H' _ ds vs d Q s.loc x vl e fun v2 H2 x2 w2 => q v2 H2 (x.trans x2) w2
end
end VV

/-! ## VPrim -/
namespace VV
open PySem PySem.Spec PyProof.Rows L2

theorem ValL.rep {mg : Mg} {P : Fm} {g : Addr → Nat} {H H' : Hp} {m : Md} {ds : List D} {vs : List V} (h : ValL mg P g H H' m ds vs) : ∃ fp, RepL mg H' ds vs fp := let ⟨fp, r, _⟩ := h; ⟨fp, r⟩
theorem repL1 {mg : Mg} {H : Hp} {d : D} {vs : List V} {fp : List Addr} (h : RepL mg H [d] vs fp) : ∃ v, vs = [v] ∧ Rep mg H d v fp := by
  simp only [RepL] at h
  obtain ⟨v, r, f1, f2, rfl, h1, ⟨rfl, rfl⟩, rfl⟩ := h
  exact ⟨v, rfl, by simpa using h1⟩
theorem repL2 {mg : Mg} {H : Hp} {d e : D} {vs : List V} {fp : List Addr} (h : RepL mg H [d, e] vs fp) : ∃ v w f1 f2, vs = [v, w] ∧ Rep mg H d v f1 ∧ Rep mg H e w f2 ∧ fp = f1 ++ f2 := by
  simp only [RepL] at h
  obtain ⟨v, r, f1, f2, rfl, h1, ⟨w, r', g1, g2, rfl, h2, ⟨rfl, rfl⟩, rfl⟩, rfl⟩ := h
  exact ⟨v, w, f1, g1, rfl, h1, by simpa using h2, by simp⟩
theorem rInt {mg : Mg} {H : Hp} {i : Int} {v : V} {fp : List Addr} (h : Rep mg H (.int i) v fp) : v = .int i := by simp only [Rep] at h; exact h.1
theorem rStr {mg : Mg} {H : Hp} {i : Str} {v : V} {fp : List Addr} (h : Rep mg H (.str i) v fp) : v = .str i := by simp only [Rep] at h; exact h.1
theorem rBl {mg : Mg} {H : Hp} {i : Bool} {v : V} {fp : List Addr} (h : Rep mg H (.bl i) v fp) : v = .bl i := by simp only [Rep] at h; exact h.1
theorem rNon {mg : Mg} {H : Hp} {v : V} {fp : List Addr} (h : Rep mg H .non v fp) : v = .non := by simp only [Rep] at h; exact h.1

/-! ### ints -/
def dII (C : Int → Int → Prop) [DecidableRel C] (f : Int → Int → Int) : List D → Option D
  | [.int a, .int b] => if C a b then some (.int (f a b)) else none
  | _ => none
def dI2 (f : Int → Int → Int) : List D → Option D
  | [.int a, .int b] => some (.int (f a b))
  | _ => none
def dB2 (f : Int → Int → Bool) : List D → Option D
  | [.int a, .int b] => some (.bl (f a b))
  | _ => none
def dI1 (f : Int → Int) : List D → Option D
  | [.int a] => some (.int (f a))
  | _ => none
theorem dII_inv {C : Int → Int → Prop} [DecidableRel C] {f : Int → Int → Int} {ds : List D} {d : D} (h : dII C f ds = some d) : ∃ a b, ds = [.int a, .int b] ∧ C a b ∧ d = .int (f a b) := by
  unfold dII at h
  split at h
  · split at h
    · cases h; exact ⟨_, _, rfl, by assumption, rfl⟩
    · cases h
  · cases h
theorem dI2_inv {f : Int → Int → Int} {ds : List D} {d : D} (h : dI2 f ds = some d) : ∃ a b, ds = [.int a, .int b] ∧ d = .int (f a b) := by
  unfold dI2 at h
  split at h
  · cases h; exact ⟨_, _, rfl, rfl⟩
  · cases h
theorem dB2_inv {f : Int → Int → Bool} {ds : List D} {d : D} (h : dB2 f ds = some d) : ∃ a b, ds = [.int a, .int b] ∧ d = .bl (f a b) := by
  unfold dB2 at h
  split at h
  · cases h; exact ⟨_, _, rfl, rfl⟩
  · cases h
section
variable {X : Cx}
theorem cp_ii {C : Int → Int → Prop} [DecidableRel C] {f : Int → Int → Int} : CP X (r2 (rI C fun i j => .int (f i j))) (dII C f) toFlat := by
  intro P LL g H H1 m ds vs d Q l x vl e q
  obtain ⟨a, b, rfl, hc, rfl⟩ := dII_inv e
  obtain ⟨fp, r⟩ := vl.rep
  obtain ⟨v, w, f1, f2, rfl, h1, h2, _⟩ := repL2 r
  exact ⟨v, w, rfl, a, b, rInt h1, rInt h2, hc, q _ H1 Ext.refl (val_flat rep_int)⟩
theorem cp_i2 {f : Int → Int → Int} : CP X (r2 (rI0 fun i j => .int (f i j))) (dI2 f) toFlat := by
  intro P LL g H H1 m ds vs d Q l x vl e q
  obtain ⟨a, b, rfl, rfl⟩ := dI2_inv e
  obtain ⟨fp, r⟩ := vl.rep
  obtain ⟨v, w, f1, f2, rfl, h1, h2, _⟩ := repL2 r
  exact ⟨v, w, rfl, a, b, rInt h1, rInt h2, q _ H1 Ext.refl (val_flat rep_int)⟩
theorem cp_b2 {f : Int → Int → Bool} : CP X (r2 (rI0 fun i j => .bl (f i j))) (dB2 f) toFlat := by
  intro P LL g H H1 m ds vs d Q l x vl e q
  obtain ⟨a, b, rfl, rfl⟩ := dB2_inv e
  obtain ⟨fp, r⟩ := vl.rep
  obtain ⟨v, w, f1, f2, rfl, h1, h2, _⟩ := repL2 r
  exact ⟨v, w, rfl, a, b, rInt h1, rInt h2, q _ H1 Ext.refl (val_flat rep_bl)⟩
end
instance : DecidableRel CDivW := fun _ _ => inferInstanceAs (Decidable (_ ∧ _))
instance : DecidableRel CMulX := fun i j => decidable_of_iff (Builtin.Int.intBits i + Builtin.Int.intBits j ≤ 134217728) (by unfold CMulX; omega)
instance : DecidableRel CPow := fun _ _ => inferInstanceAs (Decidable (_ ∧ _ ∧ _))
def CPos (_ j : Int) : Prop := 0 < j
instance : DecidableRel CPos := fun _ j => inferInstanceAs (Decidable (0 < j))
abbrev dAdd := dI2 fun i j => i + j
abbrev dSub := dI2 fun i j => i - j
abbrev dMul := dII CMulX fun i j => i * j
abbrev dDiv := dII CDivW fun i j => i / j
abbrev dMod := dII CPos fun i j => i % j
abbrev dPow := dII CPow fun i j => i ^ j.toNat
abbrev dLt := dB2 fun i j => decide (i < j)
abbrev dGt := dB2 fun i j => decide (j < i)
section
variable {X : Cx} {LL : List Nat} {Γ : List Kd} {pos : Pos} {a b : Expr} {sa sb : Ev} {ma mb : Md}
theorem ex_add (ha : EX X LL Γ a sa ma) (hb : EX X LL Γ b sb mb) : EX X LL Γ (.BinOp a .Add b pos) (eP dAdd (aCons sa (aCons sb aNil))) .flat := ex_bin op_add cp_i2 ha hb
theorem ex_sub (ha : EX X LL Γ a sa ma) (hb : EX X LL Γ b sb mb) : EX X LL Γ (.BinOp a .Sub b pos) (eP dSub (aCons sa (aCons sb aNil))) .flat := ex_bin op_sub cp_i2 ha hb
theorem ex_mul (ha : EX X LL Γ a sa ma) (hb : EX X LL Γ b sb mb) : EX X LL Γ (.BinOp a .Mult b pos) (eP dMul (aCons sa (aCons sb aNil))) .flat := ex_bin op_mulX cp_ii ha hb
theorem ex_div (ha : EX X LL Γ a sa ma) (hb : EX X LL Γ b sb mb) : EX X LL Γ (.BinOp a .FloorDiv b pos) (eP dDiv (aCons sa (aCons sb aNil))) .flat := ex_bin op_fdivW cp_ii ha hb
theorem ex_mod (ha : EX X LL Γ a sa ma) (hb : EX X LL Γ b sb mb) : EX X LL Γ (.BinOp a .Mod b pos) (eP dMod (aCons sa (aCons sb aNil))) .flat := ex_bin (op_mod (X := X)) (cp_ii (C := CPos)) ha hb
theorem ex_pow (ha : EX X LL Γ a sa ma) (hb : EX X LL Γ b sb mb) : EX X LL Γ (.BinOp a .Pow b pos) (eP dPow (aCons sa (aCons sb aNil))) .flat := ex_bin op_pow cp_ii ha hb
theorem et_lt (ha : EX X LL Γ a sa ma) (hb : EX X LL Γ b sb mb) : ET X LL Γ (.Compare a [.Lt] [b] pos) (tOf (eP dLt (aCons sa (aCons sb aNil)))) := et_cmp op_lt cp_b2 ha hb (nomark _)
theorem et_gt (ha : EX X LL Γ a sa ma) (hb : EX X LL Γ b sb mb) : ET X LL Γ (.Compare a [.Gt] [b] pos) (tOf (eP dGt (aCons sa (aCons sb aNil)))) := et_cmp op_gt cp_b2 ha hb (nomark _)
end
end VV

/-! ## VSeq -/
namespace VV
open PySem PySem.Spec PyProof.Rows L2

mutual
def D.isFlat : D → Bool
  | .tup l => D.isFlatL l
  | .lst _ => false
  | .dic _ _ _ => false
  | .obj _ _ _ => false
  | .dix _ _ => false
  | .clo _ _ => false
  | _ => true
def D.isFlatL : List D → Bool
  | [] => true
  | d :: r => d.isFlat && D.isFlatL r
end
mutual
theorem Rep.flat {mg : Mg} {H : Hp} : ∀ {d : D} {v : V} {fp : List Addr}, Rep mg H d v fp → d.isFlat = true → fp = []
  | .non, _, _, h, _ => by simp only [Rep] at h; exact h.2
  | .bl _, _, _, h, _ => by simp only [Rep] at h; exact h.2
  | .int _, _, _, h, _ => by simp only [Rep] at h; exact h.2
  | .str _, _, _, h, _ => by simp only [Rep] at h; exact h.2
  | .fn _, _, _, h, _ => by simp only [Rep] at h; exact h.2
  | .ktx _, _, _, h, _ => by simp only [Rep] at h; exact h.2
  | .kti _, _, _, h, _ => by simp only [Rep] at h; exact h.2
  | .dix _ _, _, _, _, f => by simp [D.isFlat] at f
  | .clo _ _, _, _, _, f => by simp [D.isFlat] at f
  | .tup l, _, _, h, f => by
    simp only [Rep] at h
    obtain ⟨a, vs, rfl, _, h2⟩ := h
    exact RepL.flat h2 (by simpa only [D.isFlat] using f)
  | .lst _, _, _, _, f => by simp [D.isFlat] at f
  | .scr _, _, _, h, _ => by simp only [Rep] at h; obtain ⟨_, _, _, _, _, e⟩ := h; exact e
  | .dic _ _ _, _, _, _, f => by simp [D.isFlat] at f
  | .obj _ _ _, _, _, _, f => by simp [D.isFlat] at f
theorem RepL.flat {mg : Mg} {H : Hp} : ∀ {ds : List D} {vs : List V} {fp : List Addr}, RepL mg H ds vs fp → D.isFlatL ds = true → fp = []
  | [], _, _, h, _ => by simp only [RepL] at h; exact h.2
  | d :: ds, _, _, h, f => by
    simp only [RepL] at h
    obtain ⟨v, r, f1, f2, rfl, h1, h2, rfl⟩ := h
    simp only [D.isFlatL, Bool.and_eq_true] at f
    rw [Rep.flat h1 f.1, RepL.flat h2 f.2]
    rfl
end

/-! ### what is known of a result by a look at its tree -/
def eChk (p : D → Bool) (s : Ev) : Ev := fun ρ => (s ρ).filter p
def D.isLst : D → Bool
  | .lst _ => true
  | _ => false
def D.isTup : D → Bool
  | .tup _ => true
  | _ => false
def D.kidsFlat : D → Bool
  | .lst l => D.isFlatL l
  | .dic _ _ l => D.isFlatL l
  | _ => false
section
variable {X : Cx} {LL : List Nat} {Γ : List Kd} {pos : Pos} {e : Expr} {s : Ev}
theorem ex_flat {m : Md} (h : EX X LL Γ e s m) : EX X LL Γ e (eChk D.isFlat s) .flat := by
  obtain ⟨t, p, k⟩ := h
  refine ⟨t, p, fun P g ρ σ H d Q st hs q => ?_⟩
  obtain ⟨h1, h2⟩ := Option.filter_eq_some_iff.mp hs
  refine k P g ρ σ H d Q st h1 fun v H' x w => q v H' x ?_
  cases m with
  | flat => exact w
  | al fr rt L nd =>
    obtain ⟨fp, r, _⟩ := w
    rw [r.flat h2] at r
    exact r
def Md.isNew : Md → Bool
  | .al _ .new _ _ => true
  | _ => false
theorem ex_kids {m : Md} (h : EX X LL Γ e s m) (hm : m.isNew = true := by rfl) : EX X LL Γ e (eChk D.kidsFlat s) (.al false .new [] true) := by
  obtain ⟨fr, L, nd, rfl⟩ : ∃ fr L nd, m = .al fr .new L nd := by
    cases m with
    | flat => cases hm
    | al fr rt L nd =>
      cases rt with
      | new => exact ⟨fr, L, nd, rfl⟩
      | old n => cases hm
      | unk => cases hm
  obtain ⟨t, p, k⟩ := h
  refine ⟨t, p, fun P g ρ σ H d Q st hs q => ?_⟩
  obtain ⟨h1, h2⟩ := Option.filter_eq_some_iff.mp hs
  refine k P g ρ σ H d Q st h1 fun v H' x w => q v H' x ?_
  obtain ⟨fp, r, o⟩ := w
  have key : ∀ a, v = .ref a → fp = [a] → Val X.vm P g H H' (.al false .new [] true) d v := by
    intro a e1 e2
    subst e1; subst e2
    refine ⟨[a], r, fun b hb => ?_, .of (by simp)⟩
    obtain rfl := List.mem_singleton.mp hb
    rcases o.1 b hb with z | ⟨z | z, _⟩
    · exact .inl z
    · exact absurd rfl z
    · cases z
  cases d with
  | lst l =>
    have r0 := r
    simp only [Rep] at r0
    obtain ⟨a, vs, f, rfl, _, r2, rfl⟩ := r0
    exact key a rfl (by rw [r2.flat h2])
  | dic tk ks l =>
    have r0 := r
    simp only [Rep] at r0
    obtain ⟨a, vs, f, rfl, _, r2, rfl⟩ := r0
    exact key a rfl (by rw [r2.flat h2])
  | _ => cases h2
end

/-! ### len, items -/
def dLen : List D → Option D
  | [.lst l] => some (.int l.length)
  | [.scr l] => some (.int l.length)
  | [.tup l] => some (.int l.length)
  | [.str s] => if s.length ≤ sizeLine then some (.int s.length) else none
  | _ => none
def dIdx : List D → Option D
  | [.lst l, .int i] => atI l i
  | [.scr l, .int i] => atI l i
  | [.tup l, .int i] => atI l i
  | [.str s, .int i] => if s.length ≤ sizeLine then (atI s.cps.toList i).map fun c => .str ⟨#[c]⟩ else none
  | _ => none
def Md.child : Md → Md
  | .flat => .flat
  | .al fr rt L nd => if nd then .al fr .unk L true else (Md.al fr rt L nd).unroot
section
variable {X : Cx}
theorem cp_len : CP X (fun xs H Q => ∃ x n, xs = [x] ∧ LenV X.K x H n ∧ Q (.int n) H) dLen toFlat := by
  intro P LL g H H1 m ds vs d Q l x vl e q
  obtain ⟨fp, r⟩ := vl.rep
  unfold dLen at e
  split at e
  · cases e
    obtain ⟨v, rfl, h⟩ := repL1 r
    simp only [Rep] at h
    obtain ⟨a, vs, f, rfl, ha, h2, rfl⟩ := h
    exact ⟨_, _, rfl, .inl ⟨vs, SqL.of ha, rfl⟩, by rw [h2.length]; exact q _ H1 Ext.refl (val_flat rep_int)⟩
  · cases e
    obtain ⟨v, rfl, h⟩ := repL1 r
    simp only [Rep] at h
    obtain ⟨a, vs, rfl, ha, h2, rfl⟩ := h
    exact ⟨_, _, rfl, .inl ⟨vs, ha.sq, rfl⟩, by rw [h2.length]; exact q _ H1 Ext.refl (val_flat rep_int)⟩
  · cases e
    obtain ⟨v, rfl, h⟩ := repL1 r
    simp only [Rep] at h
    obtain ⟨a, vs, rfl, ha, h2⟩ := h
    exact ⟨_, _, rfl, .inr ⟨vs, .inl (.inl ha), rfl⟩, by rw [h2.length]; exact q _ H1 Ext.refl (val_flat rep_int)⟩
  · split at e
    · cases e
      obtain ⟨v, rfl, h⟩ := repL1 r
      obtain rfl := rStr h
      exact ⟨_, _, rfl, ⟨by assumption, rfl⟩, q _ H1 Ext.refl (val_flat rep_int)⟩
    · cases e
  · cases e
theorem val_child {mg : Mg} {P : Fm} {g : Addr → Nat} {H H1 : Hp} {m : Md} {d0 : D} {v0 : V} {d : D} {v : V} (h : Val mg P g H H1 m d0 v0)
    (he : ∀ fp, Rep mg H1 d0 v0 fp → ∃ f1 f f2, Rep mg H1 d v f ∧ ((∃ a, v0 = .ref a ∧ fp = a :: (f1 ++ f ++ f2)) ∨ (fp = f1 ++ f ++ f2 ∧ ∀ a, v0 = .ref a → a ∉ fp))) : Val mg P g H H1 m.child d v := by
  cases m with
  | flat =>
    obtain ⟨f1, f, f2, r, ⟨a, _, e⟩ | ⟨e, _⟩⟩ := he [] h
    · cases e
    · have : f = [] := by
        have := congrArg List.length e
        simp at this
        exact List.eq_nil_of_length_eq_zero (by omega)
      subst this
      exact r
  | al fr rt L nd =>
    obtain ⟨fp, r, o⟩ := h
    obtain ⟨f1, f, f2, rf, hh⟩ := he fp r
    have hs : ∀ a ∈ f, a ∈ fp := fun a ha => by
      rcases hh with ⟨b, _, rfl⟩ | ⟨rfl, _⟩
      · exact List.mem_cons_of_mem _ (List.mem_append_left _ (List.mem_append_right _ ha))
      · exact List.mem_append_left _ (List.mem_append_right _ ha)
    have hn : nd = true → f.Nodup := fun h => by
      have n := o.2.1 h
      rcases hh with ⟨b, _, rfl⟩ | ⟨rfl, _⟩
      · have n := (List.nodup_cons.mp n).2
        exact (List.nodup_append.mp (List.nodup_append.mp n).1).2.1
      · exact (List.nodup_append.mp (List.nodup_append.mp n).1).2.1
    cases nd with
    | true =>
      refine ⟨f, rf, fun a ha => ?_, .unk fun h => hn rfl⟩
      rcases o.1 a (hs a ha) with ⟨e, y⟩ | ⟨_, y⟩
      · exfalso
        rcases hh with ⟨b, e2, rfl⟩ | ⟨_, z⟩
        · rw [e2] at e; cases e
          exact (List.nodup_cons.mp (o.2.1 rfl)).1 (List.mem_append_left _ (List.mem_append_right _ ha))
        · exact z a e (hs a ha)
      · exact .inr ⟨.inr rfl, y⟩
    | false =>
      have q := o.unroot
      show Val mg P g H H1 (Md.al fr rt L false).unroot d v
      cases rt <;> exact ⟨f, rf, fun a ha => .inr ⟨.inr rfl, q.1 a (hs a ha)⟩, .unk fun h => nomatch h⟩
theorem rd_tup {H : Hp} {a : Addr} {xs : List V} (r : Rd H a (.tup xs)) {u : HO} (q : Rd H a u) (h : ∀ o, u ≠ .frz o (.tup xs)) (h' : ∀ ys, u ≠ .tup ys) (h2 : ∀ o w, u ≠ .frz o w) : False := by
  rcases r with r | ⟨o, r⟩ <;> rcases q with q | ⟨o', q⟩ <;> rw [r] at q <;> cases q
  · exact h' _ rfl
  · exact h2 _ _ rfl
  · exact h' _ rfl
mutual
/-- the footprint does not have tuples -/
theorem Rep.notup {mg : Mg} {H : Hp} : ∀ {d : D} {v : V} {fp : List Addr}, Rep mg H d v fp → ∀ {a : Addr} {xs : List V}, Rd H a (.tup xs) → a ∉ fp
  | .non, _, _, h, _, _, _ => by simp only [Rep] at h; rw [h.2]; simp
  | .bl _, _, _, h, _, _, _ => by simp only [Rep] at h; rw [h.2]; simp
  | .int _, _, _, h, _, _, _ => by simp only [Rep] at h; rw [h.2]; simp
  | .str _, _, _, h, _, _, _ => by simp only [Rep] at h; rw [h.2]; simp
  | .fn _, _, _, h, _, _, _ => by simp only [Rep] at h; rw [h.2]; simp
  | .ktx _, _, _, h, _, _, _ => by simp only [Rep] at h; rw [h.2]; simp
  | .kti _, _, _, h, _, _, _ => by simp only [Rep] at h; rw [h.2]; simp
  | .clo x ds, _, _, h, _, _, r => by
    simp only [Rep] at h
    obtain ⟨f, rfl, e, h2, rfl⟩ := h
    intro hm
    rcases List.mem_cons.mp hm with rfl | hm
    · exact rd_tup r e (fun _ z => nomatch z) (fun _ z => nomatch z) (fun _ _ z => nomatch z)
    · exact RepL.notup h2 r hm
  | .dix ks ds, _, _, h, _, _, r => by
    simp only [Rep] at h
    obtain ⟨b, xs, rfl, ⟨e, _⟩, _, _, rfl⟩ := h
    intro hm
    obtain rfl := List.mem_singleton.mp hm
    exact rd_tup r e (fun _ z => nomatch z) (fun _ z => nomatch z) (fun _ _ z => nomatch z)
  | .tup ds, _, _, h, _, _, r => by
    simp only [Rep] at h
    obtain ⟨_, vs, rfl, _, h2⟩ := h
    exact RepL.notup h2 r
  | .lst ds, _, _, h, _, _, r => by
    simp only [Rep] at h
    obtain ⟨b, vs, f, rfl, e, h2, rfl⟩ := h
    intro hm
    rcases List.mem_cons.mp hm with rfl | hm
    · exact rd_tup r (.inl e) (fun _ z => nomatch z) (fun _ z => nomatch z) (fun _ _ z => nomatch z)
    · exact RepL.notup h2 r hm
  | .scr ds, _, _, h, a, _, r => by
    simp only [Rep] at h
    obtain ⟨b, vs, rfl, e, h2, rfl⟩ := h
    simp
  | .dic tk ks ds, _, _, h, _, _, r => by
    simp only [Rep] at h
    obtain ⟨b, vs, f, rfl, ⟨_, e⟩, h2, rfl⟩ := h
    intro hm
    rcases List.mem_cons.mp hm with rfl | hm
    · cases tk <;> obtain ⟨_, _, e⟩ := e
      · exact rd_tup r e (fun _ z => nomatch z) (fun _ z => nomatch z) (fun _ _ z => nomatch z)
      · exact rd_tup r e (fun _ z => nomatch z) (fun _ z => nomatch z) (fun _ _ z => nomatch z)
    · exact RepL.notup h2 r hm
  | .obj c ns ds, _, _, h, _, _, r => by
    simp only [Rep] at h
    obtain ⟨b, C, dx, vs, f, rfl, _, _, e, h2, rfl⟩ := h
    intro hm
    rcases List.mem_cons.mp hm with rfl | hm
    · exact rd_tup r (.inl e) (fun _ z => nomatch z) (fun _ z => nomatch z) (fun _ _ z => nomatch z)
    · exact RepL.notup h2 r hm
theorem RepL.notup {mg : Mg} {H : Hp} : ∀ {ds : List D} {vs : List V} {fp : List Addr}, RepL mg H ds vs fp → ∀ {a : Addr} {xs : List V}, Rd H a (.tup xs) → a ∉ fp
  | [], _, _, h, _, _, _ => by simp only [RepL] at h; rw [h.2]; simp
  | d :: ds, _, _, h, _, _, r => by
    simp only [RepL] at h
    obtain ⟨v, r', f1, f2, rfl, h1, h2, rfl⟩ := h
    intro hm
    rcases List.mem_append.mp hm with hm | hm
    · exact Rep.notup h1 r hm
    · exact RepL.notup h2 r hm
end
theorem dIdx_child {mg : Mg} {P : Fm} {g : Addr → Nat} {H H1 : Hp} {K : PySem.W.Frag} {m : Md} {d0 d : D} {i : Int} {v0 : V} {Q : VK} (hK : mg.K = K) (h : Val mg P g H H1 m d0 v0) (e : dIdx [d0, .int i] = some d)
    (q : ∀ v, Val mg P g H H1 m.child d v → Q v H1) : rIx K v0 (.int i) H1 Q := by
  have get : ∀ (l : List D) (us : List V) (f : List Addr), atI l i = some d → RepL mg H1 l us f → ∃ z g1 g2 g3, atI us i = some z ∧ Rep mg H1 d z g2 ∧ f = g1 ++ g2 ++ g3 := fun l us f e r => by
    unfold atI at e
    obtain ⟨j, e1, e2⟩ := bind_some e
    obtain ⟨z, g1, g2, g3, e3, rz, rfl⟩ := r.get e2
    exact ⟨z, g1, g2, g3, by unfold atI; rw [r.length, e1]; exact e3, rz, rfl⟩
  have some_fp : ∃ fp, Rep mg H1 d0 v0 fp := let ⟨fp, r, _⟩ := h.unroot; ⟨fp, r⟩
  obtain ⟨fp0, r0⟩ := some_fp
  cases d0 with
  | lst l =>
    have e : atI l i = some d := e
    simp only [Rep] at r0
    obtain ⟨a, us, f, rfl, ha, h3, rfl⟩ := r0
    obtain ⟨z, g1, g2, g3, e3, rz, rfl⟩ := get l us _ e h3
    refine .inl ⟨a, us, _, z, rfl, rfl, SqL.of ha, e3, q _ (val_child h fun fp r => ?_)⟩
    simp only [Rep] at r
    obtain ⟨b, us', f', eb, hb, h3', rfl⟩ := r
    cases eb
    rw [ha] at hb; cases hb
    obtain ⟨z', k1, k2, k3, e3', rz', rfl⟩ := get l us _ e h3'
    rw [e3] at e3'; cases e3'
    exact ⟨k1, k2, k3, rz', .inl ⟨a, rfl, rfl⟩⟩
  | scr l =>
    have e : atI l i = some d := e
    simp only [Rep] at r0
    obtain ⟨a, us, rfl, ha, h3, rfl⟩ := r0
    obtain ⟨z, g1, g2, g3, e3, rz, e4⟩ := get l us _ e h3
    have e5 : g2 = [] := by
      have := congrArg List.length e4
      simp at this
      exact List.eq_nil_of_length_eq_zero (by omega)
    subst e5
    refine .inl ⟨a, us, _, z, rfl, rfl, hK ▸ ha.sq, e3, q _ (val_child h fun fp r => ?_)⟩
    simp only [Rep] at r
    obtain ⟨b, us', eb, hb, h3', rfl⟩ := r
    exact ⟨[], [], [], rz, .inr ⟨rfl, fun a' ea => nofun⟩⟩
  | tup l =>
    have e : atI l i = some d := e
    simp only [Rep] at r0
    obtain ⟨a, us, rfl, ha, h3⟩ := r0
    obtain ⟨z, g1, g2, g3, e3, rz, rfl⟩ := get l us _ e h3
    refine .inr (.inl ⟨a, us, _, z, rfl, rfl, .inl (.inl ha), e3, q _ (val_child h fun fp r => ?_)⟩)
    have r1 := r
    simp only [Rep] at r
    obtain ⟨b, us', eb, hb, h3'⟩ := r
    cases eb
    have eus : us' = us := by
      rw [ha] at hb; cases hb; rfl
    subst eus
    obtain ⟨z', k1, k2, k3, e3', rz', rfl⟩ := get l us' _ e h3'
    rw [e3] at e3'; cases e3'
    exact ⟨k1, k2, k3, rz', .inr ⟨rfl, fun a' ea => by cases ea; exact r1.notup (.inl ha)⟩⟩
  | str s =>
    unfold dIdx at e
    simp only at e
    split at e
    · obtain ⟨c, e1, rfl⟩ := Option.map_eq_some_iff.mp e
      obtain rfl := rStr r0
      refine .inr (.inr ⟨_, _, c, rfl, rfl, by assumption, e1, q _ (val_child h fun fp r => ?_)⟩)
      simp only [Rep] at r
      exact ⟨[], [], [], rep_str, .inr ⟨r.2, fun a' ea => nomatch ea⟩⟩
    · cases e
  | _ => cases e
end
section
variable {X : Cx} {LL : List Nat} {Γ : List Kd} {pos : Pos} {a b : Expr} {sa sb : Ev} {ma mb : Md}
theorem dIdx_int {d0 x d : D} (e : dIdx [d0, x] = some d) : ∃ i, x = .int i := by
  unfold dIdx at e
  split at e <;> first | (rename_i h; cases h; exact ⟨_, rfl⟩) | cases e
theorem ex_idx (ha : EX X LL Γ a sa ma) (hb : EX X LL Γ b sb mb) (hs : PlainIx b := by exact fun _ _ => rfl) : EX X LL Γ (.Subscript a b pos) (eP dIdx (aCons sa (aCons sb aNil))) ma.child := by
  obtain ⟨ta, tb, pa, pb, k⟩ := two ha hb
  refine ⟨_, pe_ix ix_seq pa pb hs, fun P g ρ σ H d Q s e q => ?_⟩
  obtain ⟨ds, e1, e⟩ := bind_some e
  refine k P g ρ σ H ds _ s e1 fun d1 d2 v w H' eds x va vb vl => ?_
  subst eds
  obtain ⟨i, rfl⟩ := dIdx_int e
  obtain ⟨fp, rw', _⟩ := vb.unroot
  obtain rfl := rInt rw'
  exact dIdx_child rfl va e fun v2 w2 => q v2 H' x w2
end
end VV

/-! ## VEq -/
namespace VV
open PySem PySem.Spec PyProof.Rows L2
mutual
def D.toP : D → PyData
  | .non => .none
  | .bl b => .bool b
  | .int i => .int i
  | .str s => .str s
  | .tup l => .tuple (D.toPL l)
  | .lst l => .list (D.toPL l)
  | .scr l => .list (D.toPL l)
  | .kti l => .tuple (l.map PyData.int)
  | _ => .dict []
def D.toPL : List D → List PyData
  | [] => []
  | d :: r => d.toP :: D.toPL r
end
theorem dpAll_nums {K : PySem.W.Frag} {H : Hp} : ∀ ns : List Int, DpAll K H (ns.map V.int) (ns.map PyData.int)
  | [] => .nil
  | a :: r => .cons (.int a) (dpAll_nums r)
mutual
theorem Rep.dp {mg : Mg} {H : Hp} : ∀ {d : D} {v : V} {fp : List Addr}, Rep mg H d v fp → d.toP.canLay0 = true → Dp mg.K H v d.toP
  | .non, _, _, h, _ => by simp only [Rep] at h; rw [h.1]; exact .non
  | .bl b, _, _, h, _ => by simp only [Rep] at h; rw [h.1]; exact .bl b
  | .int i, _, _, h, _ => by simp only [Rep] at h; rw [h.1]; exact .int i
  | .str s, _, _, h, _ => by simp only [Rep] at h; rw [h.1]; exact .str s
  | .tup l, _, _, h, c => by
    simp only [Rep] at h
    obtain ⟨a, vs, rfl, r, h2⟩ := h
    simp only [D.toP, PyData.canLay0] at c ⊢
    exact .tup (.inl (.inl r)) (RepL.dp h2 c)
  | .lst l, _, _, h, c => by
    simp only [Rep] at h
    obtain ⟨a, vs, f, rfl, r, h2, _⟩ := h
    simp only [D.toP, PyData.canLay0] at c ⊢
    exact .lst (SqL.of r) (RepL.dp h2 c)
  | .scr l, _, _, h, c => by
    simp only [Rep] at h
    obtain ⟨a, vs, rfl, r, h2, _⟩ := h
    simp only [D.toP, PyData.canLay0] at c ⊢
    exact .lst r.sq (RepL.dp h2 c)
  | .dic _ _ _, _, _, _, c => by simp [D.toP, PyData.canLay0] at c
  | .obj _ _ _, _, _, _, c => by simp [D.toP, PyData.canLay0] at c
  | .fn _, _, _, _, c => by simp [D.toP, PyData.canLay0] at c
  | .ktx _, _, _, _, c => by simp [D.toP, PyData.canLay0] at c
  | .clo _ _, _, _, _, c => by simp [D.toP, PyData.canLay0] at c
  | .kti l, _, _, h, _ => by
    simp only [Rep] at h
    obtain ⟨⟨a, o, rfl, r, _⟩, _⟩ := h
    simp only [D.toP]
    exact .tup (.inl (.inr ⟨o, r⟩)) (dpAll_nums l)
  | .dix _ _, _, _, _, c => by simp [D.toP, PyData.canLay0] at c
theorem RepL.dp {mg : Mg} {H : Hp} : ∀ {ds : List D} {vs : List V} {fp : List Addr}, RepL mg H ds vs fp → PyData.canLayAll0 (D.toPL ds) = true → DpAll mg.K H vs (D.toPL ds)
  | [], _, _, h, _ => by simp only [RepL] at h; rw [h.1]; exact .nil
  | d :: ds, _, _, h, c => by
    simp only [RepL] at h
    obtain ⟨v, r, f1, f2, rfl, h1, h2, _⟩ := h
    simp only [D.toPL, PyData.canLayAll0, Bool.and_eq_true] at c ⊢
    exact .cons (Rep.dp h1 c.1) (RepL.dp h2 c.2)
end
def D.eqv (a b : D) : Bool := PyData.eqv a.toP b.toP
def D.shd (a : D) : Bool := SeqAt.shaped a.toP
def dEq : List D → Option D
  | [a, b] => if a.shd && b.shd then some (.bl (a.eqv b)) else none
  | _ => none
def dNe : List D → Option D
  | [a, b] => if a.shd && b.shd then some (.bl (!a.eqv b)) else none
  | _ => none
section
variable {X : Cx}
theorem cp_eq : CP X (r2 (rEqD X.K)) dEq toFlat := by
  intro P LL g H H1 m ds vs d Q l x vl e q
  obtain ⟨fp, r⟩ := vl.rep
  unfold dEq at e
  split at e
  · split at e
    · cases e
      rename_i h
      rw [Bool.and_eq_true] at h
      obtain ⟨v, w, f1, f2, rfl, h1, h2, _⟩ := repL2 r
      exact ⟨v, w, rfl, _, _, h1.dp (SeqAt.canLay_of_shaped h.1), h2.dp (SeqAt.canLay_of_shaped h.2), h.1, h.2, q _ H1 Ext.refl (val_flat rep_bl)⟩
    · cases e
  · cases e
theorem cp_ne : CP X (r2 (rNeD X.K)) dNe toFlat := by
  intro P LL g H H1 m ds vs d Q l x vl e q
  obtain ⟨fp, r⟩ := vl.rep
  unfold dNe at e
  split at e
  · split at e
    · cases e
      rename_i h
      rw [Bool.and_eq_true] at h
      obtain ⟨v, w, f1, f2, rfl, h1, h2, _⟩ := repL2 r
      exact ⟨v, w, rfl, _, _, h1.dp (SeqAt.canLay_of_shaped h.1), h2.dp (SeqAt.canLay_of_shaped h.2), h.1, h.2, q _ H1 Ext.refl (val_flat rep_bl)⟩
    · cases e
  · cases e
end
section
variable {X : Cx} {LL : List Nat} {Γ : List Kd} {pos : Pos} {a b : Expr} {sa sb : Ev} {ma mb : Md}
theorem ex_eq (hu : X.A.units + 64 < cLine) (ha : EX X LL Γ a sa ma) (hb : EX X LL Γ b sb mb) : EX X LL Γ (.Compare a [.Eq] [b] pos) (eP dEq (aCons sa (aCons sb aNil))) .flat := ex_cmp (op_eqD hu) cp_eq ha hb (nomark _)
theorem et_eq (hu : X.A.units + 64 < cLine) (ha : EX X LL Γ a sa ma) (hb : EX X LL Γ b sb mb) : ET X LL Γ (.Compare a [.Eq] [b] pos) (tOf (eP dEq (aCons sa (aCons sb aNil)))) := et_cmp (op_eqD hu) cp_eq ha hb (nomark _)
theorem et_ne (hu : X.A.units + 64 < cLine) (ha : EX X LL Γ a sa ma) (hb : EX X LL Γ b sb mb) : ET X LL Γ (.Compare a [.NotEq] [b] pos) (tOf (eP dNe (aCons sa (aCons sb aNil)))) := et_cmp (op_neD hu) cp_ne ha hb (nomark _)
end
end VV

/-! ## VStmt -/
namespace VV
open PySem PySem.Spec PyProof.Rows L2

inductive Out where
  | nx (ρ : List D) | ct (ρ : List D) | rt (d : D) | ex (c : Str) (ρ : List D)
/-- what a def hands back -/
inductive Rm where
  | flat | fresh | out
  /-- new things, perhaps the same more than once -/
  | news
  /-- new things and an argument's, no node twice -/
  | outN
  deriving DecidableEq
inductive Res where
  | ret (d : D) | exn (c : Str)

structure Step (LL : List Nat) (g : Addr → Nat) (H : Hp) (g' : Addr → Nat) (H' : Hp) : Prop where
  kp : ∀ a, lk LL (g a) → ∀ u, H a = some u → H' a = some u
  lk : ∀ a, H a ≠ none → lk LL (g a) → g' a = g a
  th : ∀ a, H a ≠ none → H' a ≠ none
theorem Step.refl {LL : List Nat} {g : Addr → Nat} {H : Hp} : Step LL g H g H := ⟨fun _ _ _ h => h, fun _ _ _ => rfl, fun _ h => h⟩
theorem Step.trans {LL : List Nat} {g g1 g2 : Addr → Nat} {H H1 H2 : Hp} (a : Step LL g H g1 H1) (b : Step LL g1 H1 g2 H2) : Step LL g H g2 H2 where
  kp c h u e := b.kp c (by rw [a.lk c (by rw [e]; simp) h]; exact h) u (a.kp c h u e)
  lk c e h := (b.lk c (a.th c e) (by rw [a.lk c e h]; exact h)).trans (a.lk c e h)
  th c e := b.th c (a.th c e)
theorem Step.ext {LL : List Nat} {g : Addr → Nat} {H H' : Hp} (e : Ext H H') : Step LL g H g H' := ⟨fun a _ u h => e a u h, fun _ _ _ => rfl, fun a h z => h (e.nope z)⟩

def RV (mg : Mg) (P : Fm) (g : Addr → Nat) (H : Hp) : Rm → D → V → Prop
  | .flat, d, v => Rep mg H d v []
  | .fresh, d, v => ∃ fp, Rep mg H d v fp ∧ fp.Nodup ∧ ∀ a ∈ fp, g a ≠ 0
  | .out, d, v => ∃ fp, Rep mg H d v fp ∧ ∀ a ∈ fp, g a ≠ 0 ∨ P.out a
  | .news, d, v => ∃ fp, Rep mg H d v fp ∧ ∀ a ∈ fp, g a ≠ 0
  | .outN, d, v => ∃ fp, Rep mg H d v fp ∧ fp.Nodup ∧ ∀ a ∈ fp, g a ≠ 0 ∨ P.out a

/-- what is fixed through a def's body: the locked labels, what it returns, what stands at a continue and at an exception -/
structure Sc where
  LL : List Nat
  R : Rm
  Γc : List Kd
  Γx : List Kd

def WantS (X : Cx) (W : L2.WX) (sc : Sc) (P : Fm) (Γ' : List Kd) (g : Addr → Nat) (H : Hp) (D : Ends) : Out → Prop
  | .nx ρ' => ∀ g' σ' H', Step sc.LL g H g' H' → Sta X.vm P sc.LL Γ' g' ρ' σ' H' → D.nx σ' H'
  | .ct ρ' => ∀ g' σ' H', Step sc.LL g H g' H' → Sta X.vm P sc.LL sc.Γc g' ρ' σ' H' → D.ct σ' H'
  | .rt d => ∀ v g' H', Step sc.LL g H g' H' → Loc P sc.LL g' H' → RV X.vm P g' H' sc.R d v → D.rt v H'
  | .ex c ρ' => ∀ C g' σ' H', X.mg c = some (.ref C) → Step sc.LL g H g' H' → Sta X.vm P sc.LL sc.Γx g' ρ' σ' H' → W (.ref C) none σ' H'

abbrev Sv := List D → Option Out
def SX (X : Cx) (W : L2.WX) (sc : Sc) (Γ : List Kd) (st : Stmt) (sem : Sv) (Γ' : List Kd) : Prop :=
  ∃ t, PS X st t ∧ ∀ P g ρ σ H o D, Sta X.vm P sc.LL Γ g ρ σ H → sem ρ = some o → WantS X W sc P Γ' g H D o → t D σ H
def SS (X : Cx) (W : L2.WX) (sc : Sc) (Γ : List Kd) (st : List Stmt) (sem : Sv) (Γ' : List Kd) : Prop :=
  ∃ t, PSs X st t ∧ ∀ P g ρ σ H o D, Sta X.vm P sc.LL Γ g ρ σ H → sem ρ = some o → WantS X W sc P Γ' g H D o → t D σ H

def sNil : Sv := fun ρ => some (.nx ρ)
def sSeq (a b : Sv) : Sv := fun ρ => match a ρ with
  | some (.nx ρ') => b ρ'
  | o => o
def sPass : Sv := fun ρ => some (.nx ρ)
def sCont : Sv := fun ρ => some (.ct ρ)
def sRet (e : Ev) : Sv := fun ρ => do some (.rt (← e ρ))
def sSet (i : Nat) (e : Ev) : Sv := fun ρ => do some (.nx (ρ.set i (← e ρ)))
def sIf (c : List D → Option Bool) (a b : Sv) : Sv := fun ρ => do if (← c ρ) then a ρ else b ρ
def sNever : Sv := fun _ => none

theorem WantS.from {X : Cx} {W : L2.WX} {sc : Sc} {P : Fm} {Γ' : List Kd} {g g1 : Addr → Nat} {H H1 : Hp} {D : Ends} {o : Out} (h : WantS X W sc P Γ' g H D o) (s : Step sc.LL g H g1 H1) : WantS X W sc P Γ' g1 H1 D o := by
  cases o with
  | nx ρ' => exact fun g' σ' H' s' st => h g' σ' H' (s.trans s') st
  | ct ρ' => exact fun g' σ' H' s' st => h g' σ' H' (s.trans s') st
  | rt d => exact fun v g' H' s' l r => h v g' H' (s.trans s') l r
  | ex c ρ' => exact fun C g' σ' H' m s' st => h C g' σ' H' m (s.trans s') st

section
variable {X : Cx} {W : L2.WX} {sc : Sc} {Γ Γ' Γ1 : List Kd} {pos : Pos}
theorem ss_nil : SS X W sc Γ [] sNil Γ := ⟨_, pss_nil, fun P g ρ σ H o D s e w => by cases e; exact w g σ H .refl s⟩
theorem ss_cons {st : Stmt} {rest : List Stmt} {a b : Sv} (h : SX X W sc Γ st a Γ1) (h' : SS X W sc Γ1 rest b Γ') : SS X W sc Γ (st :: rest) (sSeq a b) Γ' := by
  obtain ⟨t, p, k⟩ := h
  obtain ⟨u, p', k'⟩ := h'
  refine ⟨_, pss_cons p p', fun P g ρ σ H o D s e w => ?_⟩
  unfold sSeq at e
  cases ea : a ρ with
  | none => rw [ea] at e; cases e
  | some o1 =>
    rw [ea] at e
    cases o1 with
    | nx ρ' => exact k P g ρ σ H _ { D with nx := u D } s ea fun g' σ' H' s' st => k' P g' ρ' σ' H' o D st e (w.from s')
    | ct ρ' => cases e; exact k P g ρ σ H _ { D with nx := u D } s ea w
    | rt d => cases e; exact k P g ρ σ H _ { D with nx := u D } s ea w
    | ex c ρ' => cases e; exact k P g ρ σ H _ { D with nx := u D } s ea w
theorem ss_one {st : Stmt} {a : Sv} (h : SX X W sc Γ st a Γ') : SS X W sc Γ [st] a Γ' := by
  obtain ⟨t, p, k⟩ := h
  exact ⟨_, pss_one p, k⟩
theorem sx_never {st : Stmt} : SX X W sc Γ st sNever Γ' := ⟨_, ps_never, fun P g ρ σ H o D s e w => by cases e⟩

/-! ### labels for what is new -/
open Classical in
noncomputable def relab (g : Addr → Nat) (H H' : Hp) (v : V) (n m : Nat) : Addr → Nat := fun a => if New H H' a then (if v = .ref a then n else m) else g a
theorem relab_new {g : Addr → Nat} {H H' : Hp} {v : V} {n m : Nat} {a : Addr} (h : New H H' a) : relab g H H' v n m a = if v = .ref a then n else m := by
  unfold relab; rw [if_pos h]
theorem relab_old {g : Addr → Nat} {H H' : Hp} {v : V} {n m : Nat} {a : Addr} (h : H a ≠ none) : relab g H H' v n m a = g a := by
  unfold relab; rw [if_neg fun z => h z.1]
section
variable {mg : Mg} {P : Fm} {LL : List Nat} {g : Addr → Nat} {ρ : List D} {σ : L2.St} {H H' : Hp} {v : V} {n m : Nat}
theorem Old.relab {L : List Nat} {a : Addr} (o : Old P g L a) (l : Loc P LL g H) : Old P (relab g H H' v n m) L a := by
  unfold Old
  rw [relab_old (o.there l)]
  exact o
theorem Loc.relab (l : Loc P LL g H) (e : Ext H H') : Loc P LL (relab g H H' v n m) H' := by
  refine ⟨fun a h => ?_, (l.ext e).out, fun a h => ?_⟩
  rotate_left
  · have := l.fz a h
    obtain ⟨⟨o, u, q⟩, this2⟩ := this
    exact ⟨⟨o, u, e a _ q⟩, by rw [relab_old (by rw [q]; simp)]; exact this2⟩
  by_cases hn : New H H' a
  · obtain ⟨h1, h2⟩ := hn
    cases q : H' a with
    | none => rw [q] at h2; exact h2.elim
    | some o => rw [q] at h2; exact ⟨o, rfl, .inl h2⟩
  · by_cases h0 : H a = none
    · unfold VV.relab at h
      rw [if_neg hn] at h
      obtain ⟨o, e1, _⟩ := l.at_ a h
      rw [h0] at e1; cases e1
    · rw [relab_old h0] at h
      exact (l.ext e).at_ a h
theorem CellOk.relab {k : Kd} {d : D} {ov : Option V} (c : CellOk mg P g H k d ov) (l : Loc P LL g H) (e : Ext H H') : CellOk mg P (relab g H H' v n m) H' k d ov := by
  induction k generalizing d ov with
  | dead => trivial
  | pr p k1 k2 i1 i2 =>
    obtain ⟨a, d1, d2, v1, v2, e0, e1, r, o, c1, c2⟩ := c
    exact ⟨a, d1, d2, v1, v2, e0, e1, e a _ r, o.relab l, i1 c1, i2 c2⟩
  | ow fl n' L =>
    obtain ⟨a, f, e0, r, nd, o1, o2, o3⟩ := c
    exact ⟨a, f, e0, r.ext e, nd, o1.relab l, fun x hx => (o2 x hx).relab l, o3⟩
  | exc _ _ => exact c
  | ob m Ls =>
    obtain ⟨b, C, dx, c, ns, vs, ds, fps, rfl, rfl, hc, hl, r, ob, rs, fs, nd⟩ := c
    exact ⟨b, C, dx, c, ns, vs, ds, fps, rfl, rfl, hc, hl, e b _ r, ⟨ob.1.relab l, ob.2⟩, rs.mono fun d v f h => h.ext e, fs.mono fun b L h => h.relab l, nd⟩
  | dk fl n' l' L =>
    obtain ⟨a, b, F, e0, r, o1, o2, o3, o4⟩ := c
    exact ⟨a, b, F, e0, r.ext e, o1.relab l, o2.relab l, fun x hx => (o3 x hx).relab l, o4⟩
  | flat => obtain ⟨v, rfl, r⟩ := c; exact ⟨v, rfl, r.ext e⟩
  | lab rt L nd =>
    obtain ⟨w, fp, rfl, r, o, z⟩ := c
    refine ⟨w, fp, rfl, r.ext e, fun a ha => ?_, z⟩
    rcases o a ha with ⟨x, k, y, o'⟩ | ⟨x, o'⟩
    · exact .inl ⟨x, k, y, o'.relab l⟩
    · exact .inr ⟨x, o'.relab l⟩
theorem Cells.relab (l : Loc P LL g H) (e : Ext H H') : ∀ {Γ : List Kd} {ρ : List D} {σ : L2.St}, Cells mg P g H Γ ρ σ → Cells mg P (relab g H H' v n m) H' Γ ρ σ
  | [], [], [], _ => trivial
  | _ :: _, _ :: _, _ :: _, h => ⟨h.1.relab l e, Cells.relab l e h.2⟩
  | [], _ :: _, _, h => h.elim
  | [], [], _ :: _, h => h.elim
  | _ :: _, [], _, h => h.elim
  | _ :: _, _ :: _, [], h => h.elim
theorem Sta.relab {Γ : List Kd} (s : Sta mg P LL Γ g ρ σ H) (e : Ext H H') : Sta mg P LL Γ (relab g H H' v n m) ρ σ H' := ⟨s.loc.relab e, s.cells.relab s.loc e⟩
theorem Step.relab (e : Ext H H') : Step LL g H (relab g H H' v n m) H' := ⟨fun a _ u h => e a u h, fun a h x => relab_old h, fun a h z => h (e.nope z)⟩
end
/-- the kind of a slot that holds a result -/
def Md.kind (n m : Nat) : Md → Kd
  | .flat => .flat
  | .al fr rt L nd => .lab (match rt with | .new => some n | .old k => some k | .unk => none) (if fr then (match rt with | .unk => n :: m :: L | _ => m :: L) else L) nd
theorem Val.cell {mg : Mg} {P : Fm} {LL : List Nat} {g : Addr → Nat} {H H' : Hp} {m : Md} {d : D} {v : V} {n k : Nat} (h : Val mg P g H H' m d v) (l : Loc P LL g H) (h1 : n ≠ 0) (h2 : k ≠ 0) :
    CellOk mg P (relab g H H' v n k) H' (m.kind n k) d (some v) := by
  cases m with
  | flat => exact ⟨v, rfl, h⟩
  | al fr rt L nd =>
    obtain ⟨fp, r, o, z⟩ := h
    refine ⟨v, fp, rfl, r, fun a ha => ?_, by cases rt <;> exact z⟩
    have newOld : ∀ {K : List Nat}, New H H' a → (v = .ref a → n ∈ K) → (v ≠ .ref a → k ∈ K) → Old P (relab g H H' v n k) K a := fun {K} hn a1 a2 => by
      unfold Old
      rw [relab_new hn]
      split
      · rename_i e; exact ⟨a1 e, fun z => absurd z h1⟩
      · rename_i e; exact ⟨a2 e, fun z => absurd z h2⟩
    rcases o a ha with ⟨e, y⟩ | ⟨e, ⟨f, y⟩ | y⟩
    · cases rt with
      | new => exact .inl ⟨e, n, rfl, newOld y (fun _ => List.mem_cons_self) fun z => absurd e z⟩
      | old q => exact .inl ⟨e, q, rfl, Old.relab y l⟩
      | unk => exact y.elim
    · subst f
      refine .inr ⟨?_, ?_⟩
      · rcases e with e | rfl
        · exact .inl e
        · exact .inr rfl
      · cases rt with
        | new => exact newOld y (fun z => by rcases e with e | e; exact absurd z e; cases e) fun _ => List.mem_cons_self
        | old q => exact newOld y (fun z => by rcases e with e | e; exact absurd z e; cases e) fun _ => List.mem_cons_self
        | unk => exact newOld y (fun _ => List.mem_cons_self) fun _ => List.mem_cons_of_mem _ List.mem_cons_self
    · refine .inr ⟨?_, ?_⟩
      · rcases e with e | rfl
        · exact .inl e
        · exact .inr rfl
      · have y' : Old P (relab g H H' v n k) L a := Old.relab y l
        refine ⟨?_, y'.2⟩
        cases fr with
        | false => exact y'.1
        | true =>
          cases rt with
          | new => exact List.mem_cons_of_mem _ y'.1
          | old q => exact List.mem_cons_of_mem _ y'.1
          | unk => exact List.mem_cons_of_mem _ (List.mem_cons_of_mem _ y'.1)
theorem Cells.set {mg : Mg} {P : Fm} {g : Addr → Nat} {H : Hp} {k : Kd} {d : D} {v : V} : ∀ {Γ : List Kd} {ρ : List D} {σ : L2.St} (i : Nat), Cells mg P g H Γ ρ σ → CellOk mg P g H k d (some v) → Cells mg P g H (Γ.set i k) (ρ.set i d) (σ.set i (some v))
  | [], [], [], _, _, _ => trivial
  | _ :: _, _ :: _, _ :: _, 0, h, c => ⟨c, h.2⟩
  | _ :: _, _ :: _, _ :: _, i + 1, h, c => ⟨h.1, Cells.set i h.2 c⟩
  | [], _ :: _, _, _, h, _ => h.elim
  | [], [], _ :: _, _, h, _ => h.elim
  | _ :: _, [], _, _, h, _ => h.elim
  | _ :: _, _ :: _, [], _, h, _ => h.elim

theorem sx_set {i : Nat} {x : Str} {e : Expr} {se : Ev} {m : Md} {pos' : Pos} (n k : Nat) (hN : X.N.Nodup) (hi : X.N[i]? = some x) (hx : L2.Loc X.env.scope x) (he : EX X sc.LL Γ e se m)
    (hs : swapsWith e (some (.Name x pos')) pos.line X.env = pure false := by rfl) (hf : X.fn x = true ∨ X.env.scope.names.lookup x = some .local := by first | exact .inl rfl | exact .inr rfl | assumption)
    (h1 : n ≠ 0 := by decide) (h2 : k ≠ 0 := by decide) : SX X W sc Γ (.Assign [.Name x pos'] e pos) (sSet i se) (Γ.set i (m.kind n k)) := by
  obtain ⟨t, p, kk⟩ := he
  refine ⟨_, ps_set hN hi hx p hs hf, fun P g ρ σ H o D s e w => ?_⟩
  obtain ⟨d, e1, e⟩ := bind_some e
  cases e
  refine kk P g ρ σ H d _ s e1 fun v H' x vl => ?_
  exact w (relab g H H' v n k) _ H' (.relab x) ⟨s.loc.relab x, Cells.set i (s.cells.relab s.loc x) (vl.cell s.loc h1 h2)⟩

theorem wipe_get (σ : L2.St) (j : Nat) : ∀ vs : List Nat, (wipe σ vs)[j]? = if j ∈ vs then σ[j]?.map (fun _ => none) else σ[j]?
  | [] => by simp [wipe]
  | v :: vs => by
    unfold wipe
    rw [List.getElem?_set, wipe_length, wipe_get σ j vs]
    by_cases e : v = j
    · subst e
      simp only [if_true, List.mem_cons_self]
      by_cases h : v < σ.length
      · simp [h]
      · simp [h]
    · rw [if_neg e]
      have : (j ∈ v :: vs) ↔ j ∈ vs := by simp [Ne.symm e]
      simp only [this]
theorem wipe_set {σ : L2.St} {i : Nat} {x : Option V} {vs : List Nat} (h : i ∈ vs) : wipe (σ.set i x) vs = wipe σ vs := by
  apply List.ext_getElem?
  intro j
  rw [wipe_get, wipe_get, List.getElem?_set]
  by_cases e : i = j
  · subst e
    rw [if_pos h, if_pos h, if_pos rfl]
    by_cases hl : i < σ.length
    · simp [hl]
    · simp [hl]
  · rw [if_neg e]
def Wp (S : List Nat) (σ σ' : L2.St) : Prop := ∀ vs : List Nat, (∀ i ∈ S, i ∈ vs) → wipe σ' vs = wipe σ vs
/-! ### targets -/
abbrev Tv := D → List D → Option (List D)
def EG (X : Cx) (Γ : List Kd) (tg : Expr) (k : Kd) (sem : Tv) (Γ' : List Kd) (S : List Nat) : Prop :=
  ∃ t, PG X tg t ∧ ∀ P LL g ρ σ H d v ρ' (Q : L2.St → Hp → Prop), Sta X.vm P LL Γ g ρ σ H → CellOk X.vm P g H k d (some v) → sem d ρ = some ρ' → (∀ σ', Sta X.vm P LL Γ' g ρ' σ' H → Wp S σ σ' → Q σ' H) → t v σ H Q
def EGs (X : Cx) (Γ : List Kd) (tgs : List Expr) (k : Kd) (sem : List D → List D → Option (List D)) (Γ' : List Kd) (S : List Nat) : Prop :=
  (∀ ds ρ ρ', sem ds ρ = some ρ' → ds.length = tgs.length) ∧ ∃ t, PGs X tgs t ∧ ∀ P LL g ρ σ H (ds : List D) (vs : List V) ρ' (Q : L2.St → Hp → Prop), Sta X.vm P LL Γ g ρ σ H → (∀ (i : Nat) (d : D) (v : V), ds[i]? = some d → vs[i]? = some v → CellOk X.vm P g H k d (some v)) → vs.length = ds.length → sem ds ρ = some ρ' →
    (∀ σ', Sta X.vm P LL Γ' g ρ' σ' H → Wp S σ σ' → Q σ' H) → t vs σ H Q
def gN (i : Nat) : Tv := fun d ρ => some (ρ.set i d)
def gF (t : Tv) : Tv := fun d ρ => if d.isFlat then t d ρ else none
def gT (ts : List D → List D → Option (List D)) : Tv := fun d ρ => match d with
  | .tup l => ts l ρ
  | _ => none
def gsNil : List D → List D → Option (List D) := fun ds ρ => match ds with
  | [] => some ρ
  | _ => none
def gsCons (t : Tv) (ts : List D → List D → Option (List D)) : List D → List D → Option (List D) := fun ds ρ => match ds with
  | d :: r => do ts r (← t d ρ)
  | [] => none
theorem eg_name {i : Nat} {x : Str} {k : Kd} (hN : X.N.Nodup) (hi : X.N[i]? = some x) (hx : L2.Loc X.env.scope x) (hf : X.fn x = true ∨ X.env.scope.names.lookup x = some .local := by first | exact .inl rfl | exact .inr rfl | assumption) : EG X Γ (.Name x pos) k (gN i) (Γ.set i k) [i] :=
  ⟨_, pg_name hN hi hx hf, fun P LL g ρ σ H d v ρ' Q s c e q => by cases e; exact q _ ⟨s.loc, Cells.set i s.cells c⟩ fun vs h => wipe_set (h i List.mem_cons_self)⟩
theorem eg_flat {tg : Expr} {k : Kd} {t : Tv} {S : List Nat} (h : EG X Γ tg .flat t Γ' S) (hk : k.use = true := by decide) : EG X Γ tg k (gF t) Γ' S := by
  obtain ⟨u, p, kk⟩ := h
  refine ⟨u, p, fun P LL g ρ σ H d v ρ' Q s c e q => ?_⟩
  unfold gF at e
  split at e
  · rename_i hfl
    refine kk P LL g ρ σ H d v ρ' Q s ?_ e q
    cases k with
    | dead => cases hk
    | exc _ _ => cases hk
    | ob _ _ => cases hk
    | dk _ _ _ _ => cases hk
    | pr _ _ _ => cases hk
    | ow _ _ _ => cases hk
    | flat => exact c
    | lab rt L nd =>
      obtain ⟨w, fp, ew, r, _⟩ := c
      cases ew
      rw [r.flat hfl] at r
      exact ⟨v, rfl, r⟩
  · cases e
def Kd.tupChild : Kd → Kd
  | .lab _ L nd => .lab none L nd
  | k => k
theorem cell_tup {mg : Mg} {P : Fm} {g : Addr → Nat} {H : Hp} {k : Kd} {ds : List D} {v : V} (c : CellOk mg P g H k (.tup ds) (some v)) (hk : k.use = true) :
    ∃ a vs, v = .ref a ∧ H a = some (.tup vs) ∧ vs.length = ds.length ∧ ∀ (i : Nat) (d : D) (w : V), ds[i]? = some d → vs[i]? = some w → CellOk mg P g H k.tupChild d (some w) := by
  cases k with
  | dead => cases hk
  | exc _ _ => cases hk
  | ob _ _ => cases hk
  | dk _ _ _ _ => cases hk
  | pr _ _ _ => cases hk
  | ow _ _ _ => cases hk
  | flat =>
    obtain ⟨v', e, r⟩ := c
    cases e
    simp only [Rep] at r
    obtain ⟨a, vs, rfl, r1, r2⟩ := r
    refine ⟨a, vs, rfl, r1, r2.length, fun i d w e1 e2 => ?_⟩
    obtain ⟨w', f1, f, f2, e3, r3, e4⟩ := r2.get e1
    rw [e2] at e3; cases e3
    have : f = [] := by
      have := congrArg List.length e4
      simp at this
      exact List.eq_nil_of_length_eq_zero (by omega)
    subst this
    exact ⟨w, rfl, r3⟩
  | lab rt L nd =>
    obtain ⟨v', fp, e, r, o, z⟩ := c
    cases e
    have r0 := r
    simp only [Rep] at r
    obtain ⟨a, vs, rfl, r1, r2⟩ := r
    refine ⟨a, vs, rfl, r1, r2.length, fun i d w e1 e2 => ?_⟩
    obtain ⟨w', f1, f, f2, e3, r3, rfl⟩ := r2.get e1
    rw [e2] at e3; cases e3
    refine ⟨w, f, rfl, r3, fun b hb => ?_, .unk fun hn => ?_⟩
    · rcases o b (List.mem_append_left _ (List.mem_append_right _ hb)) with ⟨x, _⟩ | ⟨_, x⟩
      · cases x
        exact absurd (List.mem_append_left _ (List.mem_append_right _ hb)) (r0.notup (.inl r1))
      · exact .inr ⟨.inr rfl, x⟩
    · exact (List.nodup_append.mp (List.nodup_append.mp (z.1 hn)).1).2.1
theorem egs_nil {k : Kd} : EGs X Γ [] k gsNil Γ [] := by
  refine ⟨fun ds ρ ρ' e => ?_, _, pgs_nil, fun P LL g ρ σ H ds vs ρ' Q s c hl e q => ?_⟩
  · cases ds with
    | nil => rfl
    | cons => cases e
  · cases ds with
    | nil => cases e; exact ⟨List.eq_nil_of_length_eq_zero hl, q σ s fun _ _ => rfl⟩
    | cons => cases e
theorem egs_cons {tg : Expr} {tgs : List Expr} {k : Kd} {t : Tv} {ts : List D → List D → Option (List D)} {S S' : List Nat} (h : EG X Γ tg k t Γ1 S) (h' : EGs X Γ1 tgs k ts Γ' S')
    (hs : (assignEach (tg :: tgs) X.env).map (·.2) = assign tg X.env :: (assignEach tgs X.env).map (·.2) := by rfl) : EGs X Γ (tg :: tgs) k (gsCons t ts) Γ' (S ++ S') := by
  obtain ⟨u, p, kk⟩ := h
  obtain ⟨hl, u', p', kk'⟩ := h'
  refine ⟨fun ds ρ ρ' e => ?_, _, pgs_cons p p' hs, fun P LL g ρ σ H ds vs ρ' Q s c hlen e q => ?_⟩
  · cases ds with
    | nil => cases e
    | cons d r =>
      obtain ⟨ρ1, e1, e2⟩ := bind_some e
      simp [hl r ρ1 ρ' e2]
  · cases ds with
    | nil => cases e
    | cons d r =>
      obtain ⟨ρ1, e1, e2⟩ := bind_some e
      cases vs with
      | nil => cases hlen
      | cons v vr =>
        refine ⟨v, vr, rfl, kk P LL g ρ σ H d v ρ1 _ s (c 0 d v rfl rfl) e1 fun σ' s' w1 => ?_⟩
        exact kk' P LL g ρ1 σ' H r vr ρ' Q s' (fun i d' v' h1 h2 => c (i + 1) d' v' (by simpa using h1) (by simpa using h2)) (by simpa using hlen) e2 fun σ2 s2 w2 => q σ2 s2 fun vs hv =>
          (w2 vs fun i hi => hv i (List.mem_append_right _ hi)).trans (w1 vs fun i hi => hv i (List.mem_append_left _ hi))
theorem eg_tup {es : List Expr} {c : Nat} {k : Kd} {ts : List D → List D → Option (List D)} {S : List Nat} (hc : X.calm = true) (h : EGs X Γ es k.tupChild ts Γ' S) (hk : k.use = true := by decide)
    (hst : (assignEach es X.env).findIdx? (·.1) = none := by rfl) (hn : (assignEach es X.env).length = es.length := by rfl) : EG X Γ (.Tuple es c pos) k (gT ts) Γ' S := by
  obtain ⟨hl, u, p, kk⟩ := h
  refine ⟨_, pg_tup hc p hn hst, fun P LL g ρ σ H d v ρ' Q s cc e q => ?_⟩
  cases d with
  | tup ds =>
    obtain ⟨a, vs, rfl, r, hlen, hcells⟩ := cell_tup cc hk
    exact ⟨a, vs, rfl, .inl (.inl r), by rw [hlen, hl ds ρ ρ' e], kk P LL g ρ σ H ds vs ρ' Q s hcells hlen e q⟩
  | _ => cases e
def sAsg (t : Tv) (e : Ev) : Sv := fun ρ => do some (.nx (← t (← e ρ) ρ))
theorem sx_asg {tg e : Expr} {se : Ev} {t : Tv} {m : Md} {S : List Nat} (n k : Nat) (he : EX X sc.LL Γ e se m) (hg : EG X Γ tg (m.kind n k) t Γ' S) (hs : swapsWithSole [tg] e pos.line X.env = pure false := by rfl) (hw : swappedStores [tg] e X.env = pure none := by rfl)
    (ha : (assignEach [tg] X.env).map (·.2) = [assign tg X.env] := by rfl) (h1 : n ≠ 0 := by decide) (h2 : k ≠ 0 := by decide) : SX X W sc Γ (.Assign [tg] e pos) (sAsg t se) Γ' := by
  obtain ⟨u, p, kk⟩ := he
  obtain ⟨u', p', kk'⟩ := hg
  refine ⟨_, ps_asg p p' hs hw ha, fun P g ρ σ H o D s e w => ?_⟩
  obtain ⟨d, e1, e⟩ := bind_some e
  obtain ⟨ρ', e2, e⟩ := bind_some e
  cases e
  refine kk P g ρ σ H d _ s e1 fun v H' x vl => ?_
  exact kk' P sc.LL (relab g H H' v n k) ρ σ H' d v ρ' D.nx (s.relab x) (vl.cell s.loc h1 h2) e2 fun σ' s' _ => w _ σ' H' (.relab x) s'
theorem sx_if {c : Expr} {a b : List Stmt} {s : List D → Option Bool} {sa sb : Sv} (hc : ET X sc.LL Γ c s) (ha : SS X W sc Γ a sa Γ') (hb : SS X W sc Γ b sb Γ') : SX X W sc Γ (.If c a b pos) (sIf s sa sb) Γ' := by
  obtain ⟨t, p, k⟩ := hc
  obtain ⟨ta, pa, ka⟩ := ha
  obtain ⟨tb, pb, kb⟩ := hb
  refine ⟨_, ps_if p pa pb, fun P g ρ σ H o D st e w => ?_⟩
  obtain ⟨c', e0, e⟩ := bind_some e
  refine k P g ρ σ H c' _ st e0 fun H' x => ?_
  cases c' with
  | true => exact iteT (ka P g ρ σ H' o D (st.ext x) (by simpa using e) (w.from (.ext x)))
  | false => exact iteF (kb P g ρ σ H' o D (st.ext x) (by simpa using e) (w.from (.ext x)))
/-- a result that may be handed back -/
def Md.ret : Md → Rm → Bool
  | .flat, _ => true
  | .al _ _ _ _, .flat => false
  | .al fr rt L nd, .fresh => nd && !L.contains 0 && (match rt with | .old 0 => false | _ => true)
  | .al _ _ _ _, .out => true
  | .al fr rt L nd, .news => !L.contains 0 && (match rt with | .old 0 => false | _ => true)
  | .al _ _ _ nd, .outN => nd
theorem sx_ret {e : Expr} {se : Ev} {m : Md} (he : EX X sc.LL Γ e se m) (hr : m.ret sc.R = true := by rfl) : SX X W sc Γ (.Return (some e) pos) (sRet se) Γ' := by
  obtain ⟨t, p, kk⟩ := he
  refine ⟨_, ps_ret p, fun P g ρ σ H o D s e w => ?_⟩
  obtain ⟨d, e1, e⟩ := bind_some e
  cases e
  refine kk P g ρ σ H d _ s e1 fun v H' x vl => ?_
  refine w v (relab g H H' v 1 1) H' (.relab x) (s.loc.relab x) ?_
  have c := vl.cell (n := 1) (k := 1) s.loc (by decide) (by decide)
  cases m with
  | flat =>
    have r : Rep X.vm H' d v [] := vl
    cases hR : sc.R with
    | flat => exact r
    | fresh => exact ⟨[], r, by simp, fun a ha => nomatch ha⟩
    | out => exact ⟨[], r, fun a ha => nomatch ha⟩
    | news => exact ⟨[], r, fun a ha => nomatch ha⟩
    | outN => exact ⟨[], r, by simp, fun a ha => nomatch ha⟩
  | al fr rt L nd =>
    obtain ⟨fp, r, o, z⟩ := vl
    have lab : ∀ a ∈ fp, New H H' a ∨ (Old P g L a) ∨ (∃ n, rt = .old n ∧ Old P g [n] a) := fun a ha => by
      rcases o a ha with ⟨e, y⟩ | ⟨_, ⟨_, y⟩ | y⟩
      · cases rt with
        | new => exact .inl y
        | old n => exact .inr (.inr ⟨n, rfl, y⟩)
        | unk => exact y.elim
      · exact .inl y
      · exact .inr (.inl y)
    cases hR : sc.R with
    | flat => rw [hR] at hr; cases hr
    | fresh =>
      rw [hR] at hr
      simp only [Md.ret, Bool.and_eq_true] at hr
      obtain ⟨⟨h1, h2⟩, h3⟩ := hr
      refine ⟨fp, r, z.1 h1, fun a ha => ?_⟩
      rcases lab a ha with y | y | ⟨n, rfl, y⟩
      · rw [relab_new y]; split <;> decide
      · rw [relab_old (y.there s.loc)]
        intro e0
        have := y.1
        rw [e0] at this
        simp [this] at h2
      · rw [relab_old (y.there s.loc)]
        intro e0
        have := y.1
        rw [e0] at this
        rw [← List.mem_singleton.mp this] at h3
        cases h3
    | news =>
      rw [hR] at hr
      simp only [Md.ret, Bool.and_eq_true] at hr
      obtain ⟨h2, h3⟩ := hr
      refine ⟨fp, r, fun a ha => ?_⟩
      rcases lab a ha with y | y | ⟨n, rfl, y⟩
      · rw [relab_new y]; split <;> decide
      · rw [relab_old (y.there s.loc)]
        intro e0
        have := y.1
        rw [e0] at this
        simp [this] at h2
      · rw [relab_old (y.there s.loc)]
        intro e0
        have := y.1
        rw [e0] at this
        rw [← List.mem_singleton.mp this] at h3
        cases h3
    | outN =>
      rw [hR] at hr
      refine ⟨fp, r, z.1 hr, fun a ha => ?_⟩
      rcases lab a ha with y | y | ⟨n, rfl, y⟩
      · rw [relab_new y]; exact .inl (by split <;> decide)
      · rw [relab_old (y.there s.loc)]
        by_cases e0 : g a = 0
        · exact .inr (y.2 e0)
        · exact .inl e0
      · rw [relab_old (y.there s.loc)]
        by_cases e0 : g a = 0
        · exact .inr (y.2 e0)
        · exact .inl e0
    | out =>
      refine ⟨fp, r, fun a ha => ?_⟩
      rcases lab a ha with y | y | ⟨n, rfl, y⟩
      · rw [relab_new y]; exact .inl (by split <;> decide)
      · rw [relab_old (y.there s.loc)]
        by_cases e0 : g a = 0
        · exact .inr (y.2 e0)
        · exact .inl e0
      · rw [relab_old (y.there s.loc)]
        by_cases e0 : g a = 0
        · exact .inr (y.2 e0)
        · exact .inl e0
def sRetN : Sv := fun _ => some (.rt .non)
end
end VV

/-! ## VFun -/
namespace VV
open PySem PySem.Spec PyProof.Rows L2

/-! ### fewer things known -/
def reL (m : List (Nat × Nat)) (n : Nat) : Nat := (m.lookup n).getD n
def Kd.le (m : List (Nat × Nat)) : Kd → Kd → Bool
  | _, .dead => true
  | .flat, .flat => true
  | .flat, .lab _ _ _ => true
  | .lab rt L nd, .lab rt' L' nd' => (match rt' with
      | some n => (match rt with | some k => reL m k == n | none => false) && L.all fun x => L'.contains (reL m x)
      | none => (match rt with | some k => L'.contains (reL m k) | none => true) && L.all fun x => L'.contains (reL m x)) && (!nd' || nd)
  | .ob n Ls, .ob n' Ls' => decide (n' = reL m n ∧ Ls' = Ls.map fun L => L.map (reL m))
  | .dk fl n l L, .dk fl' n' l' L' => (fl == fl' && n' == reL m n) && (l' == reL m l && L.all fun x => L'.contains (reL m x))
  | .pr p k1 k2, .pr p' j1 j2 => p' == reL m p && (Kd.le m k1 j1 && Kd.le m k2 j2)
  | .ow fl n L, .ow fl' n' L' => (fl == fl' && n' == reL m n) && L.all fun x => L'.contains (reL m x)
  | _, _ => false
def kdsLe (m : List (Nat × Nat)) : List Kd → List Kd → Bool
  | [], [] => true
  | k :: r, k' :: r' => k.le m k' && kdsLe m r r'
  | _, _ => false
def mapOk (LL : List Nat) (m : List (Nat × Nat)) : Bool := m.all fun p => p.1 != 0 && p.2 != 0 && !LL.contains p.1
section
variable {mg : Mg} {P : Fm} {LL : List Nat} {g : Addr → Nat} {ρ : List D} {σ : L2.St} {H : Hp} {m : List (Nat × Nat)}
theorem lookup_mem {α β : Type} [BEq α] [LawfulBEq α] {l : List (α × β)} {a : α} {b : β} (h : l.lookup a = some b) : (a, b) ∈ l := by
  induction l with
  | nil => cases h
  | cons p r ih =>
    obtain ⟨x, y⟩ := p
    rw [List.lookup_cons] at h
    split at h
    · rename_i e
      cases h
      rw [eq_of_beq e]
      exact List.mem_cons_self
    · exact List.mem_cons_of_mem _ (ih h)
theorem reL_ok (h : mapOk LL m = true) (n : Nat) : (reL m n = 0 ↔ n = 0) ∧ (n ∈ LL → reL m n = n) := by
  unfold reL
  cases e : m.lookup n with
  | none => simp
  | some k =>
    have := List.all_eq_true.mp h _ (lookup_mem e)
    simp only [Bool.and_eq_true, bne_iff_ne, ne_eq, Bool.not_eq_true'] at this
    obtain ⟨⟨h1, h2⟩, h3⟩ := this
    simp only [Option.getD_some]
    refine ⟨⟨fun z => absurd z h2, fun z => absurd z h1⟩, fun hm => ?_⟩
    simp at h3
    exact absurd hm h3
theorem Old.re {L L' : List Nat} {a : Addr} (h : mapOk LL m = true) (o : Old P g L a) (hs : L.all (fun x => L'.contains (reL m x)) = true) : Old P (fun a => reL m (g a)) L' a := by
  refine ⟨?_, fun e => o.2 ((reL_ok h _).1.mp e)⟩
  have := List.all_eq_true.mp hs _ o.1
  simpa using this
theorem FpS.re (h : mapOk LL m = true) : ∀ {fs : List (List Addr)} {Ls : List (List Nat)}, FpS (fun b L => Old P g L b) fs Ls → FpS (fun b L => Old P (fun a => reL m (g a)) L b) fs (Ls.map (·.map (reL m)))
  | [], [], _ => trivial
  | _ :: _, L :: _, k => ⟨fun b hb => (k.1 b hb).re h (by simp [List.all_eq_true]; exact fun x hx => ⟨x, hx, rfl⟩), FpS.re h k.2⟩
  | [], _ :: _, k => k.elim
  | _ :: _, [], k => k.elim
theorem CellOk.re {k k' : Kd} {d : D} {ov : Option V} (h : mapOk LL m = true) (hk : k.le m k' = true) (c : CellOk mg P g H k d ov) : CellOk mg P (fun a => reL m (g a)) H k' d ov := by
  induction k' generalizing k d ov with
  | dead => trivial
  | pr p' j1 j2 i1 i2 =>
    cases k with
    | pr p k1 k2 =>
      simp only [Kd.le, Bool.and_eq_true, beq_iff_eq] at hk
      obtain ⟨rfl, h1, h2⟩ := hk
      obtain ⟨a, d1, d2, v1, v2, e0, e1, r, o, c1, c2⟩ := c
      exact ⟨a, d1, d2, v1, v2, e0, e1, r, o.re h (by simp), i1 h1 c1, i2 h2 c2⟩
    | flat => cases hk
    | dead => cases hk
    | exc => cases hk
    | lab => cases hk
    | ob => cases hk
    | dk => cases hk
    | ow => cases hk
  | ow fl' n' L' =>
    cases k with
    | ow fl n L =>
      simp only [Kd.le, Bool.and_eq_true, beq_iff_eq] at hk
      obtain ⟨⟨rfl, rfl⟩, hL⟩ := hk
      obtain ⟨a, f, e0, r, nd, o1, o2, o3⟩ := c
      exact ⟨a, f, e0, r, nd, o1.re h (by simp), fun x hx => (o2 x hx).re h hL, o3⟩
    | flat => cases hk
    | dead => cases hk
    | exc => cases hk
    | lab => cases hk
    | ob => cases hk
    | dk => cases hk
    | pr => cases hk
  | flat =>
    cases k with
    | flat => exact c
    | dead => cases hk
    | exc => cases hk
    | lab => cases hk
    | ob => cases hk
    | dk => cases hk
    | pr => cases hk
    | ow => cases hk
  | exc a c => cases k <;> cases hk
  | ob n' Ls' =>
    cases k with
    | ob n Ls =>
      obtain ⟨e1, e2⟩ := of_decide_eq_true hk
      subst e1 e2
      obtain ⟨a, C, dx, c, ns, vs, ds, fps, rfl, rfl, hc, hl, r, o, rs, fs, nd⟩ := c
      exact ⟨a, C, dx, c, ns, vs, ds, fps, rfl, rfl, hc, hl, r, ⟨o.1.re h (by simp), o.2⟩, rs, FpS.re h fs, nd⟩
    | dead => cases hk
    | flat => cases hk
    | exc => cases hk
    | lab => cases hk
    | dk => cases hk
    | pr => cases hk
    | ow => cases hk
  | dk fl' n' l' L' =>
    cases k with
    | dk fl n l L =>
      simp only [Kd.le, Bool.and_eq_true, beq_iff_eq] at hk
      obtain ⟨⟨rfl, rfl⟩, rfl, hL⟩ := hk
      obtain ⟨a, b, F, e0, r, o1, o2, o3, o4⟩ := c
      exact ⟨a, b, F, e0, r, o1.re h (by simp), o2.re h (by simp), fun x hx => (o3 x hx).re h hL, o4⟩
    | dead => cases hk
    | flat => cases hk
    | exc => cases hk
    | lab => cases hk
    | ob => cases hk
    | pr => cases hk
    | ow => cases hk
  | lab rt' L' nd' =>
    cases k with
    | dead => cases hk
    | exc => cases hk
    | ob => cases hk
    | dk => cases hk
    | pr => cases hk
    | ow => cases hk
    | flat =>
      obtain ⟨v, rfl, r⟩ := c
      exact ⟨v, [], rfl, r, (fun a ha => by cases ha), .of List.nodup_nil⟩
    | lab rt L nd =>
      obtain ⟨v, fp, rfl, r, o, z⟩ := c
      simp only [Kd.le, Bool.and_eq_true] at hk
      obtain ⟨hk, hn⟩ := hk
      refine ⟨v, fp, rfl, r, fun a ha => ?_, fun e => z.1 (by subst e; simpa using hn), fun e => z.2 ?_⟩
      rotate_left
      · cases rt' with
        | none => cases e
        | some n =>
          cases rt with
          | none => simp at hk
          | some k => rfl
      cases rt' with
      | some n =>
        cases rt with
        | none => simp at hk
        | some k =>
          simp only [Bool.and_eq_true] at hk
          rcases o a ha with ⟨x, q, e, y⟩ | ⟨x, y⟩
          · cases e
            refine .inl ⟨x, n, rfl, Old.re h y ?_⟩
            simp [eq_of_beq hk.1]
          · refine .inr ⟨?_, Old.re h y hk.2⟩
            rcases x with x | x
            · exact .inl x
            · cases x
      | none =>
        simp only [Bool.and_eq_true] at hk
        rcases o a ha with ⟨x, q, e, y⟩ | ⟨x, y⟩
        · subst e
          refine .inr ⟨.inr rfl, Old.re h y ?_⟩
          have h1 := hk.1
          simp only at h1
          simpa using h1
        · exact .inr ⟨.inr rfl, Old.re h y hk.2⟩
theorem Cells.re (h : mapOk LL m = true) : ∀ {Γ Γ' : List Kd} {ρ : List D} {σ : L2.St}, kdsLe m Γ Γ' = true → Cells mg P g H Γ ρ σ → Cells mg P (fun a => reL m (g a)) H Γ' ρ σ
  | [], [], [], [], _, _ => trivial
  | k :: Γ, k' :: Γ', d :: ρ, v :: σ, hk, c => by
    simp only [kdsLe, Bool.and_eq_true] at hk
    exact ⟨c.1.re h hk.1, Cells.re h hk.2 c.2⟩
  | [], _ :: _, _, _, hk, _ => by cases hk
  | _ :: _, [], _, _, hk, _ => by cases hk
  | [], _, _ :: _, _, _, c => c.elim
  | [], _, [], _ :: _, _, c => c.elim
  | _ :: _, _, [], _, _, c => c.elim
  | _ :: _, _, _ :: _, [], _, c => c.elim
theorem Sta.re {Γ Γ' : List Kd} (h : mapOk LL m = true) (hk : kdsLe m Γ Γ' = true) (s : Sta mg P LL Γ g ρ σ H) : Sta mg P LL Γ' (fun a => reL m (g a)) ρ σ H := by
  refine ⟨⟨fun a ha => ?_, s.loc.out, fun a ha => ?_⟩, s.cells.re h hk⟩
  · exact s.loc.at_ a fun z => ha ((reL_ok h _).1.mpr z)
  · have := s.loc.fz a ha
    refine ⟨this.1, ?_⟩
    rcases this.2 with x | x
    · exact .inl ((reL_ok h _).1.mpr x)
    · right
      show reL m (g a) ∈ LL
      rw [(reL_ok h _).2 x]
      exact x
theorem Step.re (h : mapOk LL m = true) : Step LL g H (fun a => reL m (g a)) H := by
  refine ⟨fun a _ u e => e, fun a _ x => ?_, fun a e => e⟩
  rcases x with x | x
  · show reL m (g a) = g a
    rw [x]
    exact (reL_ok h _).1.mpr rfl
  · exact (reL_ok h _).2 x
end
section
variable {X : Cx} {W : L2.WX} {sc : Sc} {Γ Γ' Γ1 : List Kd} {pos : Pos}
theorem ss_conv {sts : List Stmt} {s : Sv} (m : List (Nat × Nat)) (h : SS X W sc Γ sts s Γ1) (hm : mapOk sc.LL m = true) (hk : kdsLe m Γ1 Γ' = true) : SS X W sc Γ sts s Γ' := by
  obtain ⟨t, p, k⟩ := h
  refine ⟨t, p, fun P g ρ σ H o D st e w => k P g ρ σ H o D st e ?_⟩
  cases o with
  | nx ρ' => exact fun g' σ' H' s' st' => w _ σ' H' (s'.trans (.re hm)) (st'.re hm hk)
  | ct ρ' => exact w
  | rt d => exact w
  | ex c ρ' => exact w
end

/-! ### defs -/
def RF (mg : Mg) (H H' : Hp) (fp : List Addr) : Rm → D → V → Prop
  | .flat, d, v => Rep mg H' d v []
  | .fresh, d, v => ∃ f, Rep mg H' d v f ∧ f.Nodup ∧ ∀ a ∈ f, New H H' a
  | .out, d, v => ∃ f, Rep mg H' d v f ∧ ∀ a ∈ f, New H H' a ∨ a ∈ fp
  | .news, d, v => ∃ f, Rep mg H' d v f ∧ ∀ a ∈ f, New H H' a
  | .outN, d, v => ∃ f, Rep mg H' d v f ∧ f.Nodup ∧ ∀ a ∈ f, New H H' a ∨ a ∈ fp
def sp0 (mg : Mg) (sem : List D → Option Res) (n : Nat) (R : Rm) : Sp := fun vs H Q _ => vs.length = n ∧ ∃ ds fp d, RepL mg H ds vs fp ∧ sem ds = some (.ret d) ∧ ∀ v H', Ext H H' → RF mg H H' fp R d v → Q v H'
def pkOk : List Kd → List D → Bool
  | [], [] => true
  | .flat :: r, d :: ds => d.isFlat && pkOk r ds
  | .lab none [0] false :: r, _ :: ds => pkOk r ds
  | _, _ => false
def fnSem (n : Nat) (pk : List Kd) (s : Sv) : List D → Option Res := fun ds => if pkOk pk ds then
    match s (ds ++ List.replicate (n - ds.length) .non) with
    | some (.nx _) => some (.ret .non)
    | some (.rt d) => some (.ret d)
    | some (.ex c _) => some (.exn c)
    | _ => none
  else none
theorem cells_start {mg : Mg} {H : Hp} {F : List Addr} : ∀ {pk : List Kd} {ds : List D} {vs : List V} {fp : List Addr} (j : Nat), pkOk pk ds = true → RepL mg H ds vs fp → (∀ a ∈ fp, a ∈ F) →
    Cells mg ⟨fun a => a ∈ F, fun _ => False⟩ (fun _ => 0) H (pk ++ List.replicate j .dead) (ds ++ List.replicate j .non) (vs.map some ++ List.replicate j none)
  | [], [], _, _, j, _, h, _ => by
    simp only [RepL] at h
    obtain ⟨rfl, _⟩ := h
    induction j with
    | zero => trivial
    | succ j ih => exact ⟨trivial, ih⟩
  | .flat :: pk, d :: ds, _, _, j, e, h, hf => by
    simp only [RepL] at h
    obtain ⟨v, r, f1, f2, rfl, h1, h2, rfl⟩ := h
    simp only [pkOk, Bool.and_eq_true] at e
    refine ⟨⟨v, rfl, ?_⟩, cells_start j e.2 h2 fun a ha => hf a (List.mem_append_right _ ha)⟩
    rw [h1.flat e.1] at h1
    exact h1
  | .lab none [0] false :: pk, d :: ds, _, _, j, e, h, hf => by
    simp only [RepL] at h
    obtain ⟨v, r, f1, f2, rfl, h1, h2, rfl⟩ := h
    simp only [pkOk] at e
    refine ⟨⟨v, f1, rfl, h1, fun a ha => .inr ⟨.inr rfl, List.mem_singleton.mpr rfl, fun _ => hf a (List.mem_append_left _ ha)⟩, .unk fun z => nomatch z⟩, cells_start j e h2 fun a ha => hf a (List.mem_append_right _ ha)⟩
  | [], _ :: _, _, _, _, e, _, _ => by cases e
  | k :: _, [], _, _, _, e, _, _ => by unfold pkOk at e; split at e <;> simp_all
  | .dead :: _, _ :: _, _, _, _, e, _, _ => by cases e
  | .exc _ _ :: _, _ :: _, _, _, _, e, _, _ => by cases e
  | .ob _ _ :: _, _ :: _, _, _, _, e, _, _ => by cases e
  | .dk _ _ _ _ :: _, _ :: _, _, _, _, e, _, _ => by cases e
  | .pr _ _ _ :: _, _ :: _, _, _, _, e, _, _ => by cases e
  | .ow _ _ _ :: _, _ :: _, _, _, _, e, _, _ => by cases e
  | .lab none [] _ :: _, _ :: _, _, _, _, e, _, _ => by cases e
  | .lab none [0] true :: _, _ :: _, _, _, _, e, _, _ => by cases e
  | .lab none [k+1] _ :: _, _ :: _, _, _, _, e, _, _ => by cases e
  | .lab none (_ :: _ :: _) _ :: _, _ :: _, _, _, _, e, _, _ => by unfold pkOk at e; split at e <;> simp_all
  | .lab (some _) _ _ :: _, _ :: _, _, _, _, e, _, _ => by cases e
theorem pkOk_len : ∀ {pk : List Kd} {ds : List D}, pkOk pk ds = true → ds.length = pk.length
  | [], ds, e => by cases ds <;> simp_all [pkOk]
  | k :: pk, ds, e => by
    unfold pkOk at e
    split at e
    · simp_all
    · rename_i h; cases h; simp only [Bool.and_eq_true] at e; simp [pkOk_len e.2]
    · rename_i h; cases h; simp [pkOk_len e]
    · cases e
theorem loc_start {H : Hp} {fp : List Addr} (h : ∀ a ∈ fp, H a ≠ none) : Loc ⟨fun a => a ∈ fp, fun _ => False⟩ [] (fun _ => 0) H := ⟨fun a z => absurd rfl z, h, fun a z => z.elim⟩
theorem step_ext {H H' : Hp} {g' : Addr → Nat} (s : Step [] (fun _ => 0) H g' H') : Ext H H' := fun a u e => s.kp a (.inl rfl) u e
theorem step_new {P : Fm} {H H' : Hp} {g' : Addr → Nat} (s : Step [] (fun _ => 0) H g' H') (l : Loc P [] g' H') (hf : ∀ a, ¬ P.frz a) {a : Addr} (h : g' a ≠ 0) : New H H' a := by
  refine ⟨?_, ?_⟩
  · cases q : H a with
    | none => rfl
    | some o => exact absurd (s.lk a (by rw [q]; simp) (.inl rfl)) h
  · obtain ⟨o, e, m | m⟩ := l.at_ a h
    · rw [e]; exact m
    · exact absurd m (hf a)
theorem rf_of {mg : Mg} {H H' : Hp} {g' : Addr → Nat} {fp : List Addr} {R : Rm} {d : D} {v : V} (s : Step [] (fun _ => 0) H g' H') (l : Loc ⟨fun a => a ∈ fp, fun _ => False⟩ [] g' H') (r : RV mg ⟨fun a => a ∈ fp, fun _ => False⟩ g' H' R d v) : RF mg H H' fp R d v := by
  cases R with
  | flat => exact r
  | fresh => obtain ⟨f, r1, n, q⟩ := r; exact ⟨f, r1, n, fun a ha => step_new s l (fun _ z => z) (q a ha)⟩
  | out => obtain ⟨f, r1, q⟩ := r; exact ⟨f, r1, fun a ha => (q a ha).imp (step_new s l (fun _ z => z)) id⟩
  | news => obtain ⟨f, r1, q⟩ := r; exact ⟨f, r1, fun a ha => step_new s l (fun _ z => z) (q a ha)⟩
  | outN => obtain ⟨f, r1, n, q⟩ := r; exact ⟨f, r1, n, fun a ha => (q a ha).imp (step_new s l (fun _ z => z)) id⟩
section
variable {P : Program} {w : World} {K : PySem.W.Frag} {mg : Str → Option Value} {base : Heap} {x qual : Str} {params : Arguments} {body : List Stmt} {scope : Scope} {f : Addr} {fd : FuncData}
/-- a def that lets nothing out -/
theorem fn_ok0 {N ps : List Str} {k : Nat} {sc : Sc} {Γ' : List Kd} {s : Sv} (F : FunD K x qual params body scope [] [] f fd) (S : FnScope N ps scope) (pk : List Kd) (hp : pk.length = ps.length) (hN : ps.length ≤ N.length) (hL : sc.LL = [])
    (hb : ∀ (cdv : Value) (A : Around) (outer : List Env) (s0 : Shared) (H : Hp) (E : XK), Room k (A.deeper (envOfC qual scope s0.heap.objs.size f cdv)) →
      SS (cxOf CX0 P w K mg base N qual scope f cdv A outer s0 H E).nox (fun _ _ _ _ => False) sc (pk ++ List.replicate (N.length - pk.length) .dead) body s Γ') :
    FnOk P w K mg base CX0 (k + 1) f fd ps (sp0 ⟨mg, K⟩ (fnSem N.length pk s) ps.length sc.R) := by
  refine F.ok S (fun vs H Q E h => h.1) (fun cdv A outer s0 H vs Q E hr h => ?_)
  obtain ⟨hl, ds, fp, d, r, e, q⟩ := h
  obtain ⟨t, p, kk⟩ := hb cdv A outer s0 H E hr
  refine ⟨t, p.nox, ?_⟩
  unfold fnSem at e
  split at e
  · rename_i hpk
    have hlen := pkOk_len hpk
    have hvd := r.length
    have st : Sta ⟨mg, K⟩ ⟨fun a => a ∈ fp, fun _ => False⟩ sc.LL (pk ++ List.replicate (N.length - pk.length) .dead) (fun _ => 0) (ds ++ List.replicate (N.length - ds.length) .non) (L2.start N vs) H := by
      rw [hL]
      refine ⟨loc_start r.there, ?_⟩
      unfold L2.start
      rw [hvd, hlen]
      exact cells_start _ hpk r fun a ha => ha
    cases o : s (ds ++ List.replicate (N.length - ds.length) .non) with
    | none => rw [o] at e; cases e
    | some o' =>
      rw [o] at e
      refine kk ⟨fun a => a ∈ fp, fun _ => False⟩ (fun _ => 0) _ _ H o' _ st o ?_
      cases o' with
      | nx ρ' =>
        cases e
        intro g' σ' H' s' st'
        rw [hL] at s'
        refine q .non H' (step_ext s') ?_
        have r : Rep ⟨mg, K⟩ H' .non .non [] := rep_non
        cases sc.R with
        | flat => exact r
        | fresh => exact ⟨[], r, by simp, fun a ha => nomatch ha⟩
        | out => exact ⟨[], r, fun a ha => nomatch ha⟩
        | news => exact ⟨[], r, fun a ha => nomatch ha⟩
        | outN => exact ⟨[], r, by simp, fun a ha => nomatch ha⟩
      | ct ρ' => cases e
      | rt d' =>
        cases e
        intro v g' H' s' l' rv
        rw [hL] at s' l'
        exact q v H' (step_ext s') (rf_of s' l' rv)
      | ex c ρ' => cases e
  · cases e
end

/-! ### calls -/
def eCall (f : List D → Option Res) (a : List D → Option (List D)) : Ev := fun ρ => do
  let ds ← a ρ
  match f ds with
  | some (.ret d) => some d
  | _ => none
def Rm.md : Rm → Md → Md
  | .flat, _ => .flat
  | .fresh, _ => .al true .new [] true
  | .news, _ => .al true .unk [] false
  | .outN, .flat => .al true .unk [] true
  | .outN, .al _ _ L _ => .al true .unk L true
  | .out, .flat => .al true .unk [] false
  | .out, .al _ _ L _ => .al true .unk L false
theorem rf_val {mg : Mg} {P : Fm} {g : Addr → Nat} {H H1 H2 : Hp} {m : Md} {fp : List Addr} {R : Rm} {d : D} {v : V} (e : Ext H H1) (e' : Ext H1 H2) (o : Fps P g H H1 m fp) (r : RF mg H1 H2 fp R d v) : Val mg P g H H2 (R.md m) d v := by
  cases R with
  | flat => exact r
  | fresh =>
    obtain ⟨f, r1, n, q⟩ := r
    refine ⟨f, r1, fun a ha => ?_, .of n⟩
    by_cases hv : v = .ref a
    · exact .inl ⟨hv, (q a ha).back e⟩
    · exact .inr ⟨.inl hv, .inl ⟨rfl, (q a ha).back e⟩⟩
  | news =>
    obtain ⟨f, r1, q⟩ := r
    exact ⟨f, r1, fun a ha => .inr ⟨.inr rfl, .inl ⟨rfl, (q a ha).back e⟩⟩, .unk fun z => nomatch z⟩
  | outN =>
    obtain ⟨f, r1, n, q⟩ := r
    cases m with
    | flat =>
      obtain rfl : fp = [] := o
      refine ⟨f, r1, fun a ha => ?_, .unk fun _ => n⟩
      rcases q a ha with y | y
      · exact .inr ⟨.inr rfl, .inl ⟨rfl, y.back e⟩⟩
      · cases y
    | al fr rt L nd =>
      refine ⟨f, r1, fun a ha => ?_, .unk fun _ => n⟩
      rcases q a ha with y | y
      · exact .inr ⟨.inr rfl, .inl ⟨rfl, y.back e⟩⟩
      · rcases o.1 a y with ⟨_, z⟩ | z
        · exact .inr ⟨.inr rfl, .inl ⟨rfl, z.ext e'⟩⟩
        · exact .inr ⟨.inr rfl, .inr z⟩
  | out =>
    obtain ⟨f, r1, q⟩ := r
    cases m with
    | flat =>
      obtain rfl : fp = [] := o
      refine ⟨f, r1, fun a ha => ?_, .unk fun z => nomatch z⟩
      rcases q a ha with y | y
      · exact .inr ⟨.inr rfl, .inl ⟨rfl, y.back e⟩⟩
      · cases y
    | al fr rt L nd =>
      refine ⟨f, r1, fun a ha => ?_, .unk fun z => nomatch z⟩
      rcases q a ha with y | y
      · exact .inr ⟨.inr rfl, .inl ⟨rfl, y.back e⟩⟩
      · rcases o.1 a y with ⟨_, z⟩ | z
        · exact .inr ⟨.inr rfl, .inl ⟨rfl, z.ext e'⟩⟩
        · exact .inr ⟨.inr rfl, .inr z⟩
section
variable {X : Cx} {LL : List Nat} {Γ : List Kd} {pos p : Pos} {k : Nat} {f : Addr} {fd : FuncData} {ps : List Str} {sem : List D → Option Res} {R : Rm} {x : Str}
theorem ex_call {e : Expr} {es : List Expr} {a : List D → Option (List D)} {m : Md} {n : Nat} (F : FnOk X.prog X.w X.K X.mg X.base CX0 k f fd ps (sp0 X.vm sem n R)) (hr : Room k X.A) (hg : Gl X x) (hm : X.mg x = some (.ref f)) (hk : PySem.W.keepIn X.K (.ref f) = true) (hb : Binds X.K fd ps [])
    (ha : EA X LL Γ (e :: es) a m) (hn : (e :: es).length = n := by rfl) (hdb : (x == ("__debug__" : Str)) = false := by decide) (he : starEach (e :: es) X.env = (false, eval e X.env) :: starEach es X.env := by rfl) (hpl : (backTo pos (starEach es X.env)).any (·.1) = false := by rfl) :
    EX X LL Γ (.Call (.Name x p) (e :: es) [] pos) (eCall sem a) (R.md m) := by
  obtain ⟨hl, t, pt, kk⟩ := ha
  refine ⟨_, pe_call F hr hg hm hk hb .nil pass0 pt hdb he hpl, fun P g ρ σ H d Q s e0 q => ?_⟩
  obtain ⟨ds, e1, e2⟩ := bind_some e0
  refine kk P g ρ σ H ds _ s e1 fun vs H1 x1 vl => ?_
  obtain ⟨fp, r, o⟩ := vl
  have hlen : (vs ++ []).length = n := by rw [List.append_nil, r.length, hl ρ ds e1]; exact hn
  refine ⟨hlen, ds, fp, d, by rw [List.append_nil]; exact r, ?_, fun v H2 x2 rf => q v H2 (x1.trans x2) (rf_val x1 x2 o rf)⟩
  split at e2
  · cases e2; assumption
  · cases e2
end
end VV

/-! ## VLoop -/
namespace VV
open PySem PySem.Spec PyProof.Rows L2

theorem PE_imp {X : Cx} {e : Expr} {t t' : TE} (p : PE X e t) (h : ∀ σ H Q, t' σ H Q → t σ H Q) : PE X e t' := ⟨fun pins s σ H Q I q => p.run pins s σ H Q I (h σ H Q q)⟩
theorem PTs_imp {X : Cx} {e : List Expr} {t t' : TT} (p : PTs X e t) (h : ∀ σ H Q, t' σ H Q → t σ H Q) : PTs X e t' := ⟨fun pins s σ H Q I q => p.run pins s σ H Q I (h σ H Q q)⟩
theorem PG_imp {X : Cx} {e : Expr} {t t' : TG} (p : PG X e t) (h : ∀ v σ H Q, t' v σ H Q → t v σ H Q) : PG X e t' := ⟨fun pins s σ H v u Q I r q => p.run pins s σ H v u Q I r (h v σ H Q q)⟩
def canT (mg : Mg) (LL : List Nat) (Γ : List Kd) (sem : Ev) (m : Md) : TE := fun σ H Q => ∃ P g ρ d, Sta mg P LL Γ g ρ σ H ∧ sem ρ = some d ∧ ∀ v H', Ext H H' → Val mg P g H H' m d v → Q v H'
def canB (mg : Mg) (LL : List Nat) (Γ : List Kd) (sem : List D → Option Bool) : TT := fun σ H Q => ∃ P g ρ d, Sta mg P LL Γ g ρ σ H ∧ sem ρ = some d ∧ ∀ H', Ext H H' → Q d H'
def canG (mg : Mg) (Γ : List Kd) (k : Kd) (sem : Tv) (Γ' : List Kd) (S : List Nat) : TG := fun v σ H Q => ∃ P LL g ρ d ρ', Sta mg P LL Γ g ρ σ H ∧ CellOk mg P g H k d (some v) ∧ sem d ρ = some ρ' ∧ ∀ σ', Sta mg P LL Γ' g ρ' σ' H → Wp S σ σ' → Q σ' H
theorem ex_can {X : Cx} {LL : List Nat} {Γ : List Kd} {e : Expr} {sem : Ev} {m : Md} (h : EX X LL Γ e sem m) : PE X e (canT X.vm LL Γ sem m) := by
  obtain ⟨t, p, k⟩ := h
  exact PE_imp p fun σ H Q ⟨P, g, ρ, d, s, e, q⟩ => k P g ρ σ H d Q s e q
/-- a list of tests (of a comprehension) -/
def ETs (X : Cx) (LL : List Nat) (Γ : List Kd) (e : List Expr) (sem : List D → Option Bool) : Prop :=
  ∃ t, PTs X e t ∧ ∀ P g ρ σ H b Q, Sta X.vm P LL Γ g ρ σ H → sem ρ = some b → (∀ H', Ext H H' → Q b H') → t σ H Q
def cYes : List D → Option Bool := fun _ => some true
theorem ets_nil {X : Cx} {LL : List Nat} {Γ : List Kd} : ETs X LL Γ [] cYes := ⟨_, pts_nil, fun P g ρ σ H b Q s e q => by cases e; exact q H Ext.refl⟩
theorem ets_can {X : Cx} {LL : List Nat} {Γ : List Kd} {e : List Expr} {sem : List D → Option Bool} (h : ETs X LL Γ e sem) : PTs X e (canB X.vm LL Γ sem) := by
  obtain ⟨t, p, k⟩ := h
  exact PTs_imp p fun σ H Q ⟨P, g, ρ, d, s, e, q⟩ => k P g ρ σ H d Q s e q
theorem eg_can {X : Cx} {Γ Γ' : List Kd} {e : Expr} {k : Kd} {sem : Tv} {S : List Nat} (h : EG X Γ e k sem Γ' S) : PG X e (canG X.vm Γ k sem Γ' S) := by
  obtain ⟨t, p, kk⟩ := h
  exact PG_imp p fun v σ H Q ⟨P, LL, g, ρ, d, ρ', s, c, e, q⟩ => kk P LL g ρ σ H d v ρ' Q s c e q

/-! ### what is walked -/
def Kept (H H' : Hp) (fp : List Addr) : Prop := (∀ a ∈ fp, ∀ u, H a = some u → H' a = some u) ∧ KpT H H'
theorem Ext.kept {H H' : Hp} (e : Ext H H') (fp : List Addr) : Kept H H' fp := ⟨fun a _ u h => e a u h, e.kpT⟩
theorem Kept.rep {mg : Mg} {H H' : Hp} {F f : List Addr} {d : D} {v : V} (k : Kept H H' F) (h : Rep mg H d v f) (s : ∀ a ∈ f, a ∈ F) : Rep mg H' d v f :=
  h.keep (fun a ha => ⟨fun u _ r => by rcases r with r | ⟨o, r⟩; exact .inl (k.1 a (s a ha) u r); exact .inr ⟨o, k.1 a (s a ha) _ r⟩, fun vs r => k.1 a (s a ha) _ r, fun _ _ _ r => k.1 a (s a ha) _ r⟩) k.2
def Iter (mg : Mg) (P : Fm) (g : Addr → Nat) (H H' : Hp) (J : It) (labs : List Nat) (me : Md) (ds : List D) : Prop :=
  ∃ fpI : List Addr, (∀ a ∈ fpI, New H H' a ∨ Old P g labs a) ∧ ∀ H2, Kept H' H2 fpI →
    (∀ (i : Nat) (d : D), ds[i]? = some d → J.go i H2 ∧ ∀ x H3, J.yld i H2 x H3 → Ext H2 H3 ∧ ∃ f, Rep mg H3 d x f ∧ Fps P g H H' me f ∧ ∀ a ∈ f, a ∈ fpI) ∧ J.stop ds.length H2
def EI (X : Cx) (LL : List Nat) (Γ : List Kd) (tg it : Expr) (sem : List D → Option (List D)) (labs : List Nat) (me : Md) : Prop :=
  ∃ wi, PI X tg it wi ∧ ∀ P g ρ σ H ds R, Sta X.vm P LL Γ g ρ σ H → sem ρ = some ds → (∀ J H', Ext H H' → ds.length ≤ sizeLine → Iter X.vm P g H H' J labs me ds → R J H') → wi σ H R
def Sized (K : PySem.W.Frag) (H : Hp) : Prop := (∀ a xs, SqL K H a xs → xs.length ≤ sizeLine) ∧ ∀ a xs, SqT K H a xs → xs.length ≤ sizeLine
theorem pi_sized {X : Cx} {tg it : Expr} {wi : TI} (h : PI X tg it wi) : PI X tg it (fun σ H R => wi σ H fun J H1 => Sized X.K H1 → R J H1) := by
  refine ⟨fun pins s σ H R I hw => thn (h.run pins s σ H _ I hw) fun v s1 h1 => thn h1 fun u s2 ⟨it', fp, tn, J, H', e, I', T, t0, f, r⟩ => ?_⟩
  refine ⟨it', fp, tn, J, H', e, I', T, t0, f, r ⟨fun a xs q => ?_, fun a xs q => ?_⟩⟩
  · obtain ⟨_, _, _, z⟩ := I'.list q; exact z
  · obtain ⟨_, _, _, z⟩ := I'.tuple q; exact z
def Md.labs : Md → List Nat
  | .flat => []
  | .al _ rt L _ => (match rt with | .old n => n :: L | _ => L)
theorem Val.labs {mg : Mg} {P : Fm} {g : Addr → Nat} {H H' : Hp} {m : Md} {d : D} {v : V} (h : Val mg P g H H' m d v) : ∃ fp, Rep mg H' d v fp ∧ Fps P g H H' m.unroot fp ∧ (∀ a ∈ fp, New H H' a ∨ Old P g m.labs a) ∧
    ∀ f : List Addr, (∃ f1 f2, (∃ a, v = .ref a ∧ fp = a :: (f1 ++ f ++ f2)) ∨ (fp = f1 ++ f ++ f2 ∧ ∀ a, v = .ref a → a ∉ fp)) → Fps P g H H' m.child f := by
  cases m with
  | flat =>
    refine ⟨[], h, rfl, (fun a ha => nomatch ha), fun f ⟨f1, f2, e⟩ => ?_⟩
    rcases e with ⟨a, _, e⟩ | ⟨e, _⟩
    · cases e
    · have := congrArg List.length e
      simp at this
      exact List.eq_nil_of_length_eq_zero (by omega)
  | al fr rt L nd =>
    obtain ⟨fp, r, o⟩ := h
    refine ⟨fp, r, o.unroot, fun a ha => ?_, fun f ⟨f1, f2, e⟩ => ?_⟩
    · rcases o.1 a ha with ⟨_, y⟩ | ⟨_, ⟨_, y⟩ | y⟩
      · cases rt with
        | new => exact .inl y
        | old n => exact .inr ⟨by rw [List.mem_singleton.mp y.1]; exact List.mem_cons_self, y.2⟩
        | unk => exact y.elim
      · exact .inl y
      · refine .inr ⟨?_, y.2⟩
        cases rt with
        | new => exact y.1
        | old n => exact List.mem_cons_of_mem _ y.1
        | unk => exact y.1
    · have hs : ∀ a ∈ f, a ∈ fp := fun a ha => by
        rcases e with ⟨b, _, rfl⟩ | ⟨rfl, _⟩
        · exact List.mem_cons_of_mem _ (List.mem_append_left _ (List.mem_append_right _ ha))
        · exact List.mem_append_left _ (List.mem_append_right _ ha)
      cases nd with
      | true =>
        refine ⟨fun a ha => ?_, fun _ => ?_⟩
        · rcases o.1 a (hs a ha) with ⟨e2, y⟩ | ⟨_, y⟩
          · exfalso
            rcases e with ⟨b, e3, rfl⟩ | ⟨_, z⟩
            · rw [e3] at e2; cases e2
              exact (List.nodup_cons.mp (o.2.1 rfl)).1 (List.mem_append_left _ (List.mem_append_right _ ha))
            · exact z a e2 (hs a ha)
          · exact y
        · have n := o.2.1 rfl
          rcases e with ⟨b, _, rfl⟩ | ⟨rfl, _⟩
          · have n := (List.nodup_cons.mp n).2
            exact (List.nodup_append.mp (List.nodup_append.mp n).1).2.1
          · exact (List.nodup_append.mp (List.nodup_append.mp n).1).2.1
      | false =>
        have q := o.unroot
        show Fps P g H H' (Md.al fr rt L false).unroot f
        cases rt <;> exact ⟨fun a ha => q.1 a (hs a ha), fun h => nomatch h⟩
section
variable {X : Cx} {LL : List Nat} {Γ : List Kd} {pos p : Pos} {tg e : Expr} {se : Ev} {m : Md}
def iLst (s : Ev) : List D → Option (List D) := fun ρ => do match (← s ρ) with
  | .lst l => some l
  | .scr l => some l
  | _ => none
def iTupl (s : Ev) : List D → Option (List D) := fun ρ => do match (← s ρ) with
  | .tup l => some l
  | _ => none
theorem RepL.parts {mg : Mg} {H : Hp} {ds : List D} {vs : List V} {fp : List Addr} (h : RepL mg H ds vs fp) {i : Nat} {d : D} (e : ds[i]? = some d) : ∃ v f, vs[i]? = some v ∧ Rep mg H d v f ∧ ∃ f1 f2, fp = f1 ++ f ++ f2 := by
  obtain ⟨v, f1, f, f2, e1, r, e2⟩ := h.get e
  exact ⟨v, f, e1, r, f1, f2, e2⟩
theorem ei_list (he : EX X LL Γ e se m) : EI X LL Γ tg e (iLst se) m.labs m.child := by
  obtain ⟨t, pt, k⟩ := he
  refine ⟨_, pi_sized (pi_list pt), fun P g ρ σ H ds R s e0 q => ?_⟩
  obtain ⟨d, e1, e0⟩ := bind_some e0
  refine k P g ρ σ H d _ s e1 fun v H1 x1 w => ?_
  obtain ⟨fp, r, o, lb, ch⟩ := w.labs
  cases d with
  | lst l =>
    cases e0
    have r0 := r
    simp only [Rep] at r0
    obtain ⟨a, vs, f, rfl, ha, h2, rfl⟩ := r0
    refine ⟨a, rfl, ⟨vs, SqL.of ha⟩, fun sz => q _ H1 x1 (by rw [← h2.length]; exact sz.1 a vs (SqL.of ha)) ⟨a :: f, lb, fun H2 kp => ⟨fun i d hi => ?_, ?_⟩⟩⟩
    · obtain ⟨u, fi, e3, ri, f1, f2, rfl⟩ := h2.parts hi
      have ha2 : H2 a = some (.lst vs) := kp.1 a List.mem_cons_self _ ha
      refine ⟨⟨vs, u, SqL.of ha2, e3⟩, fun x H3 y => ?_⟩
      obtain ⟨rfl, y⟩ := y
      have := y vs (SqL.of ha2)
      rw [e3] at this; cases this
      have sub : ∀ b ∈ fi, b ∈ a :: (f1 ++ fi ++ f2) := fun b hb => List.mem_cons_of_mem _ (List.mem_append_left _ (List.mem_append_right _ hb))
      exact ⟨Ext.refl, fi, kp.rep ri sub, ch fi ⟨f1, f2, .inl ⟨a, rfl, rfl⟩⟩, sub⟩
    · exact ⟨vs, SqL.of (kp.1 a List.mem_cons_self _ ha), by rw [h2.length]; exact Nat.le_refl _⟩
  | scr l =>
    cases e0
    have r0 := r
    simp only [Rep] at r0
    obtain ⟨a, vs, rfl, ha, h2, rfl⟩ := r0
    refine ⟨a, rfl, ⟨vs, ha.sq⟩, fun sz => q _ H1 x1 (by rw [← h2.length]; exact sz.1 a vs ha.sq) ⟨[], lb, fun H2 kp => ⟨fun i d hi => ?_, ?_⟩⟩⟩
    · obtain ⟨u, fi, e3, ri, f1, f2, e4⟩ := h2.parts hi
      have e5 : fi = [] ∧ f1 = [] ∧ f2 = [] := by
        have := congrArg List.length e4
        simp at this
        exact ⟨List.eq_nil_of_length_eq_zero (by omega), List.eq_nil_of_length_eq_zero (by omega), List.eq_nil_of_length_eq_zero (by omega)⟩
      obtain ⟨rfl, rfl, rfl⟩ := e5
      have ha2 : ScrAt X.K H2 a vs := ha.imp (fun ⟨o, r⟩ => ⟨o, kp.2.2.1 a o vs r⟩) id
      refine ⟨⟨vs, u, ha2.sq, e3⟩, fun x H3 y => ?_⟩
      obtain ⟨rfl, y⟩ := y
      have := y vs ha2.sq
      rw [e3] at this; cases this
      exact ⟨Ext.refl, [], kp.rep ri (fun b hb => nomatch hb), ch [] ⟨[], [], .inr ⟨rfl, fun b eb => nofun⟩⟩, fun b hb => nomatch hb⟩
    · have ha2 : ScrAt X.K H2 a vs := ha.imp (fun ⟨o, r⟩ => ⟨o, kp.2.2.1 a o vs r⟩) id
      exact ⟨vs, ha2.sq, by rw [h2.length]; exact Nat.le_refl _⟩
  | _ => cases e0
/-- lo, lo + 1, .. -/
def rngD (lo : Int) (n : Nat) : List D := (List.range n).map fun i : Nat => .int (lo + i)
theorem rngD_get {lo : Int} {n i : Nat} {d : D} (h : (rngD lo n)[i]? = some d) : i < n ∧ d = .int (lo + i) := by
  unfold rngD at h
  rw [List.getElem?_map] at h
  by_cases hi : i < n
  · rw [List.getElem?_range hi] at h
    cases h
    exact ⟨hi, rfl⟩
  · rw [List.getElem?_eq_none (by simpa using hi)] at h
    cases h
theorem iter_rngD {mg : Mg} {P : Fm} {g : Addr → Nat} {H H' : Hp} {lo : Int} {n : Nat} : Iter mg P g H H' (Itr lo n) [] .flat (rngD lo n) := by
  refine ⟨[], (fun a ha => nomatch ha), fun H2 kp => ⟨fun i d hi => ?_, ?_⟩⟩
  · obtain ⟨h1, rfl⟩ := rngD_get hi
    refine ⟨h1, fun x H3 y => ?_⟩
    obtain ⟨rfl, rfl⟩ := y
    exact ⟨Ext.refl, [], rep_int, rfl, fun a ha => nomatch ha⟩
  · show n ≤ (rngD lo n).length
    unfold rngD
    simp
def iRng (a : List D → Option (List D)) : List D → Option (List D) := fun ρ => do match (← a ρ) with
  | [.int j] => if j ≤ 10000000 ∧ -10000000 ≤ j then some (rngD 0 j.toNat) else none
  | [.int i, .int j] => if j ≤ 10000000 ∧ -10000000 ≤ i ∧ i ≤ 10000000 ∧ -10000000 ≤ j ∧ j - i ≤ 10000000 then some (rngD i (j - i).toNat) else none
  | _ => none
theorem ei_range1 {a : Expr} {sa : List D → Option (List D)} (hg : Gl X "range") (hm : X.mg "range" = none) (ha : EA X LL Γ [a] sa m) (hs : starEach [a] X.env = [(false, eval a X.env)] := by rfl) : EI X LL Γ tg (.Call (.Name "range" p) [a] [] pos) (iRng sa) [] .flat := by
  obtain ⟨hl, t, pt, k⟩ := ha
  refine ⟨_, pi_range1 hg hm pt hs, fun P g ρ σ H ds R s e0 q => ?_⟩
  obtain ⟨d, e1, e0⟩ := bind_some e0
  have hlen := hl ρ d e1
  refine k P g ρ σ H d _ s e1 fun vs H1 x1 w => ?_
  obtain ⟨fp, r⟩ := w.rep
  split at e0
  · split at e0
    · cases e0
      obtain ⟨v, rfl, h⟩ := repL1 r
      obtain rfl := rInt h
      rename_i j hj
      refine ⟨j, rfl, by omega, by omega, ?_⟩
      exact q _ H1 x1 (by unfold rngD; simp; rw [sizeLine_eq]; omega) iter_rngD
    · cases e0
  · simp at hlen
  · cases e0
end
end VV

/-! ## VLoop2 -/
namespace VV
open PySem PySem.Spec PyProof.Rows L2

/-! ### for -/
def forL (t : Tv) (b : Sv) : List D → List D → Option Out
  | [], ρ => some (.nx ρ)
  | x :: xs, ρ => match t x ρ with
    | none => none
    | some ρ1 => match b ρ1 with
      | some (.nx ρ2) => forL t b xs ρ2
      | some (.ct ρ2) => forL t b xs ρ2
      | o => o
def sFor (it : List D → Option (List D)) (t : Tv) (b : Sv) : Sv := fun ρ => do forL t b (← it ρ) ρ
/-- the kind of a loop's name -/
def Md.kindI (n : Nat) : Md → Kd
  | .flat => .flat
  | .al fr _ L nd => .lab none (if fr then n :: L else L) nd
theorem fps_cell {mg : Mg} {P : Fm} {LL : List Nat} {g g' : Addr → Nat} {H H1 H' : Hp} {me : Md} {f : List Addr} {d : D} {v : V} {n : Nat} (l : Loc P LL g H) (r : Rep mg H' d v f) (o : Fps P g H H1 me f) (hn : n ≠ 0)
    (hg : ∀ a ∈ f, g' a = relab g H H1 .non n n a) : CellOk mg P g' H' (me.kindI n) d (some v) := by
  cases me with
  | flat =>
    obtain rfl : f = [] := o
    exact ⟨v, rfl, r⟩
  | al fr rt L nd =>
    refine ⟨v, f, rfl, r, fun a ha => .inr ⟨.inr rfl, ?_⟩, .unk o.2⟩
    unfold Old
    rw [hg a ha]
    rcases o.1 a ha with ⟨hfr, y⟩ | y
    · rw [relab_new y]
      subst hfr
      refine ⟨?_, fun z => ?_⟩
      · show _ ∈ n :: L
        split <;> exact List.mem_cons_self
      · split at z <;> exact absurd z hn
    · have := Old.relab (H' := H1) (v := .non) (n := n) (m := n) y l
      refine ⟨?_, this.2⟩
      cases fr with
      | false => exact this.1
      | true => exact List.mem_cons_of_mem _ this.1
theorem Step.sub {LL LL' : List Nat} {g g' : Addr → Nat} {H H' : Hp} (s : Step LL' g H g' H') (h : ∀ n ∈ LL, n ∈ LL') : Step LL g H g' H' :=
  ⟨fun a x u e => s.kp a (x.imp id (h _)) u e, fun a e x => s.lk a e (x.imp id (h _)), s.th⟩
theorem Loc.up {P : Fm} {LL LL' : List Nat} {g : Addr → Nat} {H : Hp} (l : Loc P LL g H) (h : ∀ n ∈ LL, n ∈ LL') : Loc P LL' g H := ⟨l.at_, l.out, fun a x => ⟨(l.fz a x).1, (l.fz a x).2.imp id (h _)⟩⟩
/-- back to fewer locks: what was locked for good before is still so -/
theorem Loc.down {P : Fm} {LL LL' : List Nat} {g g' : Addr → Nat} {H H' : Hp} (l' : Loc P LL' g' H') (l : Loc P LL g H) (s : Step LL g H g' H') : Loc P LL g' H' :=
  ⟨l'.at_, l'.out, fun a x => ⟨(l'.fz a x).1, by rw [s.lk a (l.fzn x) (l.fz a x).2]; exact (l.fz a x).2⟩⟩
theorem Step.tups {P : Fm} {LL : List Nat} {g g' : Addr → Nat} {H H' : Hp} (s : Step LL g H g' H') (l : Loc P LL g H) {u : HO} (hu : ¬ Mut (some u)) (a : Addr) (e : H a = some u) : H' a = some u := by
  have key : VV.lk LL (g a) := by
    by_cases h : g a = 0
    · exact .inl h
    · obtain ⟨o, e', m | m⟩ := l.at_ a h
      · rw [e] at e'; cases e'; exact absurd m hu
      · exact (l.fz a m).2
  exact s.kp a key _ e
theorem Step.kpT {P : Fm} {LL : List Nat} {g g' : Addr → Nat} {H H' : Hp} (s : Step LL g H g' H') (l : Loc P LL g H) : KpT H H' := by
  refine ⟨fun a xs r => ?_, fun a o vs r => s.tups l (show ¬ Mut (some (HO.frz o (.lst vs))) from fun z => z) a r, fun a o vs r => s.tups l (show ¬ Mut (some (HO.frz o (.tup vs))) from fun z => z) a r⟩
  exact s.tups l (show ¬ Mut (some (HO.tup xs)) from fun z => z) a r
theorem wantS_sub {X : Cx} {W : L2.WX} {sc sc' : Sc} {P : Fm} {Γ' : List Kd} {g g0 : Addr → Nat} {H H0 : Hp} {D D' : Ends} {o : Out} (hL : ∀ n ∈ sc.LL, n ∈ sc'.LL) (hR : sc'.R = sc.R) (hx : sc'.Γx = sc.Γx) (hD : D'.rt = D.rt) (l : Loc P sc.LL g0 H0) (s0 : Step sc.LL g0 H0 g H)
    (w : WantS X W sc P Γ' g0 H0 D o) (ho : (∃ d, o = .rt d) ∨ ∃ c ρ, o = .ex c ρ) (Γ1 : List Kd) : WantS X W sc' P Γ1 g H D' o := by
  rcases ho with ⟨d, rfl⟩ | ⟨c, ρ, rfl⟩
  · intro v g' H' s l' r
    rw [hD]
    have st := s0.trans (s.sub hL)
    exact w v g' H' st (l'.down l st) (by rw [← hR]; exact r)
  · intro C g' σ' H' m s st
    have stt := s0.trans (s.sub hL)
    exact w C g' σ' H' m stt ⟨st.loc.down l stt, by rw [← hx]; exact st.cells⟩
section
variable {X : Cx} {W : L2.WX} {sc : Sc} {Γ Γ1 : List Kd} {pos : Pos}
theorem for_run {t : Tv} {sb : Sv} {labs : List Nat} {me : Md} {S : List Nat} {n : Nat} {tgt : TG} {tb : TS} {wi : TI}
    (kg : ∀ P LL g ρ σ H d v ρ' (Q : L2.St → Hp → Prop), Sta X.vm P LL Γ g ρ σ H → CellOk X.vm P g H (me.kindI n) d (some v) → t d ρ = some ρ' → (∀ σ', Sta X.vm P LL Γ1 g ρ' σ' H → Wp S σ σ' → Q σ' H) → tgt v σ H Q)
    (kb : ∀ P g ρ σ H o D, Sta X.vm P (n :: (labs ++ sc.LL)) Γ1 g ρ σ H → sb ρ = some o → WantS X W { sc with LL := n :: (labs ++ sc.LL), Γc := Γ } P Γ g H D o → tb D σ H)
    (hn : n ≠ 0) {P : Fm} {g : Addr → Nat} {ρ : List D} {σ : L2.St} {H : Hp} {ds : List D} {o : Out} {De : Ends} (s : Sta X.vm P sc.LL Γ g ρ σ H)
    (ki : ∀ R : It → Hp → Prop, (∀ J H', Ext H H' → Iter X.vm P g H H' J labs me ds → R J H') → wi σ H R) (e : forL t sb ds ρ = some o) (w : WantS X W sc P Γ g H De o) : tFor wi tgt tb De σ H := by
  refine ki _ fun J H1 x1 it => ?_
  obtain ⟨fpI, lb, walk⟩ := it
  -- what is new is labelled n, and locked
  have s1 : Sta X.vm P sc.LL Γ (relab g H H1 .non n n) ρ σ H1 := s.relab x1
  have st1 : Step sc.LL g H (relab g H H1 .non n n) H1 := .relab x1
  have subL : ∀ k ∈ sc.LL, k ∈ n :: (labs ++ sc.LL) := fun k hk => List.mem_cons_of_mem _ (List.mem_append_right _ hk)
  have lkI : ∀ a ∈ fpI, lk (n :: (labs ++ sc.LL)) (relab g H H1 .non n n a) := fun a ha => by
    rcases lb a ha with y | y
    · rw [relab_new y]; right; split <;> exact List.mem_cons_self
    · rw [relab_old (y.there s.loc)]; right
      exact List.mem_cons_of_mem _ (List.mem_append_left _ y.1)
  generalize hg1 : relab g H H1 .non n n = g1 at s1 st1 lkI
  -- the turn's state: what is left of the items
  refine ⟨fun i m σ' H' => m = ds.length - i ∧ i ≤ ds.length ∧ ∃ ρ' g', forL t sb (ds.drop i) ρ' = some o ∧ Sta X.vm P (n :: (labs ++ sc.LL)) Γ g' ρ' σ' H' ∧ Step (n :: (labs ++ sc.LL)) g1 H1 g' H',
    ⟨ds.length, rfl, Nat.zero_le _, ρ, g1, by rw [List.drop_zero]; exact e, ⟨s1.loc.up subL, s1.cells⟩, .refl⟩, ?_⟩
  rintro i m σ2 H2 ⟨rfl, hil, ρ2, g2, e2, s2, st2⟩
  have kept : Kept H1 H2 fpI := ⟨fun a ha u r => st2.kp a (lkI a ha) u r, st2.kpT (s1.loc.up subL)⟩
  obtain ⟨wk, wstop⟩ := walk H2 kept
  have back : ∀ {ρ3 : List D} {σ3 : L2.St} {g3 : Addr → Nat} {H3 : Hp}, Step (n :: (labs ++ sc.LL)) g1 H1 g3 H3 → Sta X.vm P (n :: (labs ++ sc.LL)) Γ g3 ρ3 σ3 H3 → Step sc.LL g H g3 H3 ∧ Sta X.vm P sc.LL Γ g3 ρ3 σ3 H3 := fun st3 s3 =>
    have h := st1.trans (st3.sub subL)
    ⟨h, s3.loc.down s.loc h, s3.cells⟩
  by_cases hi' : i < ds.length
  · refine .inr ?_
    obtain ⟨go, yl⟩ := wk i ds[i] (List.getElem?_eq_getElem hi')
    rw [List.drop_eq_getElem_cons hi'] at e2
    unfold forL at e2
    cases et : t ds[i] ρ2 with
    | none => rw [et] at e2; cases e2
    | some ρ3 =>
      rw [et] at e2
      dsimp only at e2
      refine ⟨go, fun σ' H' => ∃ m', m' < ds.length - i ∧ (m' = ds.length - (i + 1) ∧ i + 1 ≤ ds.length ∧ ∃ ρ' g', forL t sb (ds.drop (i + 1)) ρ' = some o ∧ Sta X.vm P (n :: (labs ++ sc.LL)) Γ g' ρ' σ' H' ∧ Step (n :: (labs ++ sc.LL)) g1 H1 g' H'), fun σ' H' h => h, fun x H3 y => ?_⟩
      obtain ⟨x3, f, r, of, sub⟩ := yl x H3 y
      have s3 := s2.ext x3
      have cell : CellOk X.vm P g2 H3 (me.kindI n) ds[i] (some x) := fps_cell s.loc r of hn fun a ha => by
        rw [hg1]
        obtain ⟨u, hu⟩ : ∃ u, H1 a = some u := by
          rcases lb a (sub a ha) with y | y
          · cases q : H1 a with
            | none => have := y.2; rw [q] at this; exact this.elim
            | some u => exact ⟨u, rfl⟩
          · cases q : H1 a with
            | none => exact absurd (x1.nope q) (y.there s.loc)
            | some u => exact ⟨u, rfl⟩
        exact st2.lk a (by rw [hu]; simp) (lkI a (sub a ha))
      refine kg P _ g2 ρ2 σ2 H3 ds[i] x ρ3 _ s3 cell et fun σ4 s4 _ => ?_
      have st3 : Step (n :: (labs ++ sc.LL)) g1 H1 g2 H3 := st2.trans (.ext x3)
      have again : ∀ {ρ5 : List D} {σ5 : L2.St} {g5 : Addr → Nat} {H5 : Hp}, forL t sb (ds.drop (i + 1)) ρ5 = some o → Step (n :: (labs ++ sc.LL)) g2 H3 g5 H5 → Sta X.vm P (n :: (labs ++ sc.LL)) Γ g5 ρ5 σ5 H5 →
          ∃ m', m' < ds.length - i ∧ (m' = ds.length - (i + 1) ∧ i + 1 ≤ ds.length ∧ ∃ ρ' g', forL t sb (ds.drop (i + 1)) ρ' = some o ∧ Sta X.vm P (n :: (labs ++ sc.LL)) Γ g' ρ' σ5 H5 ∧ Step (n :: (labs ++ sc.LL)) g1 H1 g' H5) := fun {ρ5 σ5 g5 H5} e5 st5 s5 =>
        ⟨_, by omega, rfl, hi', ρ5, g5, e5, s5, st3.trans st5⟩
      cases eb : sb ρ3 with
      | none => rw [eb] at e2; cases e2
      | some o3 =>
        rw [eb] at e2
        refine kb P g2 ρ3 σ4 H3 o3 _ s4 eb ?_
        cases o3 with
        | nx ρ5 => exact fun g5 σ5 H5 st5 s5 => again e2 st5 s5
        | ct ρ5 => exact fun g5 σ5 H5 st5 s5 => again e2 st5 s5
        | rt d =>
          cases e2
          exact wantS_sub (D := De) (sc := sc) (sc' := { sc with LL := n :: (labs ++ sc.LL), Γc := Γ }) subL rfl rfl rfl s.loc (st1.trans (st3.sub subL)) w (.inl ⟨d, rfl⟩) Γ
        | ex c ρ5 =>
          cases e2
          exact wantS_sub (D := De) (sc := sc) (sc' := { sc with LL := n :: (labs ++ sc.LL), Γc := Γ }) subL rfl rfl rfl s.loc (st1.trans (st3.sub subL)) w (.inr ⟨c, ρ5, rfl⟩) Γ
  · have : i = ds.length := by omega
    subst this
    refine .inl ⟨wstop, ?_⟩
    rw [List.drop_length] at e2
    cases e2
    obtain ⟨h1, h2⟩ := back st2 s2
    exact w g2 σ2 H2 h1 h2
theorem sx_for {iter tg : Expr} {body : List Stmt} {si : List D → Option (List D)} {t : Tv} {sb : Sv} {labs : List Nat} {me : Md} {S : List Nat} (n : Nat) (hc : X.calm = true) (hp : PassesOwn (model X.prog X.w) X.A X.env X.xe)
    (hi : EI X sc.LL Γ tg iter si labs me) (hg : EG X Γ tg (me.kindI n) t Γ1 S) (hb : SS X W { sc with LL := n :: (labs ++ sc.LL), Γc := Γ } Γ1 body sb Γ)
    (hs : ∀ x, foldedSetIterable iter X.env x = pure x := by intro _; rfl) (hn : n ≠ 0 := by decide) : SX X W sc Γ (.For tg iter body [] pos) (sFor si t sb) Γ := by
  obtain ⟨wi, pi, ki⟩ := hi
  obtain ⟨tgt, pg, kg⟩ := hg
  obtain ⟨tb, pb, kb⟩ := hb
  refine ⟨_, ps_for hp hc pi pg pb hs, fun P g ρ σ H o De s e w => ?_⟩
  obtain ⟨ds, e1, e⟩ := bind_some e
  exact for_run kg kb hn s (fun R q => ki P g ρ σ H ds R s e1 fun J H' x _ it => q J H' x it) e w
end
end VV

/-! ## VComp -/
namespace VV
open PySem PySem.Spec PyProof.Rows L2

/-! ### while -/
section
variable {X : Cx} {W : L2.WX} {sc : Sc} {Γ Γ1 : List Kd} {pos : Pos}
end

/-! ### list comprehensions -/
def lcL (t : Tv) (c : List D → Option Bool) (e : Ev) (ρ : List D) : List D → Option (List D)
  | [] => some []
  | x :: xs => do
    let ρ1 ← t x ρ
    let b ← c ρ1
    if b then do
      let y ← e ρ1
      let r ← lcL t c e ρ xs
      some (y :: r)
    else lcL t c e ρ xs
def eLc (it : List D → Option (List D)) (t : Tv) (c : List D → Option Bool) (e : Ev) : Ev := fun ρ => do
  let xs ← it ρ
  let ys ← lcL t c e ρ xs
  some (.lst ys)
def wipeK (Γ : List Kd) : List Nat → List Kd
  | [] => Γ
  | v :: vs => (wipeK Γ vs).set v .dead
theorem Cells.kill {mg : Mg} {P : Fm} {g : Addr → Nat} {H : Hp} {ov : Option V} : ∀ {Γ : List Kd} {ρ : List D} {σ : L2.St} (i : Nat), Cells mg P g H Γ ρ σ → Cells mg P g H (Γ.set i .dead) ρ (σ.set i ov)
  | [], [], [], _, _ => trivial
  | _ :: _, _ :: _, _ :: _, 0, h => ⟨trivial, h.2⟩
  | _ :: _, _ :: _, _ :: _, i + 1, h => ⟨h.1, Cells.kill i h.2⟩
  | [], _ :: _, _, _, h => h.elim
  | [], [], _ :: _, _, h => h.elim
  | _ :: _, [], _, _, h => h.elim
  | _ :: _, _ :: _, [], _, h => h.elim
theorem Cells.wipe {mg : Mg} {P : Fm} {g : Addr → Nat} {H : Hp} {Γ : List Kd} {ρ : List D} {σ : L2.St} (h : Cells mg P g H Γ ρ σ) : ∀ vs : List Nat, Cells mg P g H (wipeK Γ vs) ρ (wipe σ vs)
  | [] => h
  | v :: vs => Cells.kill v (Cells.wipe h vs)
def Md.lc : Md → Md
  | .flat => .al false .new [] true
  | .al _ .new [] nd => .al true .new [] nd
  | .al _ rt L _ => .al true .new (match rt with | .old n => n :: L | _ => L) false
theorem lcL_cons {t : Tv} {c : List D → Option Bool} {e : Ev} {ρ : List D} {x : D} {xs ys : List D} (h : lcL t c e ρ (x :: xs) = some ys) : ∃ ρ1 b, t x ρ = some ρ1 ∧ c ρ1 = some b ∧ ((b = true ∧ ∃ y r, e ρ1 = some y ∧ lcL t c e ρ xs = some r ∧ ys = y :: r) ∨ (b = false ∧ lcL t c e ρ xs = some ys)) := by
  unfold lcL at h
  obtain ⟨ρ1, h1, h⟩ := bind_some h
  obtain ⟨b, h2, h⟩ := bind_some h
  refine ⟨ρ1, b, h1, h2, ?_⟩
  cases b with
  | true =>
    simp only [if_true] at h
    obtain ⟨y, h3, h⟩ := bind_some h
    obtain ⟨r, h4, h⟩ := bind_some h
    cases h
    exact .inl ⟨rfl, y, r, h3, h4, rfl⟩
  | false => exact .inr ⟨rfl, by simpa using h⟩
/-- the nodes of what is made so far, seen from H -/
def AccOk (P : Fm) (g : Addr → Nat) (H H' : Hp) : Md → List Addr → Prop
  | .flat, f => f = []
  | .al _ .new [] nd, f => (∀ a ∈ f, New H H' a) ∧ (nd = true → f.Nodup)
  | .al _ rt L _, f => ∀ a ∈ f, New H H' a ∨ Old P g (match rt with | .old n => n :: L | _ => L) a
theorem AccOk.ext {P : Fm} {g : Addr → Nat} {H H1 H2 : Hp} {m : Md} {f : List Addr} (h : AccOk P g H H1 m f) (e : ∀ a ∈ f, ∀ u, H1 a = some u → H2 a = some u) : AccOk P g H H2 m f := by
  have ne : ∀ a ∈ f, New H H1 a → New H H2 a := fun a ha n => ⟨n.1, mut_of n.2 (e a ha)⟩
  cases m with
  | flat => exact h
  | al fr rt L nd =>
    cases rt with
    | new =>
      cases L with
      | nil => exact ⟨fun a ha => ne a ha (h.1 a ha), h.2⟩
      | cons x r => exact fun a ha => (h a ha).imp (ne a ha) id
    | old n => exact fun a ha => (h a ha).imp (ne a ha) id
    | unk => exact fun a ha => (h a ha).imp (ne a ha) id
theorem AccOk.nil {P : Fm} {g : Addr → Nat} {H H1 : Hp} {m : Md} : AccOk P g H H1 m [] := by
  cases m with
  | flat => rfl
  | al fr rt L nd =>
    cases rt with
    | new =>
      cases L with
      | nil => exact ⟨(fun a ha => nomatch ha), fun _ => List.nodup_nil⟩
      | cons x r => exact fun a ha => nomatch ha
    | old n => exact fun a ha => nomatch ha
    | unk => exact fun a ha => nomatch ha
/-- one more: its value was told from H1, where all of f stood -/
theorem AccOk.add {mg : Mg} {P : Fm} {LL : List Nat} {g g' : Addr → Nat} {H H1 H2 : Hp} {m : Md} {f : List Addr} {d : D} {v : V} (h : AccOk P g H H2 m f) (th : ∀ a ∈ f, H1 a ≠ none) (e : Ext H H1) (e2 : Ext H1 H2) (w : Val mg P g' H1 H2 m d v)
    (l : Loc P LL g H) (hg : ∀ a, H a ≠ none → g' a = g a) (hn : ∀ a L, H a = none → Old P g' L a → New H H2 a) : ∃ f', Rep mg H2 d v f' ∧ AccOk P g H H2 m (f ++ f') ∧ ∀ a ∈ f', New H1 H2 a ∨ ∃ L, Old P g' L a := by
  have old : ∀ {L : List Nat} {a : Addr}, Old P g' L a → New H H2 a ∨ Old P g L a := fun {L a} o => by
    by_cases h0 : H a = none
    · exact .inl (hn a L h0 o)
    · right
      unfold Old at o ⊢
      rw [hg a h0] at o
      exact o
  cases m with
  | flat =>
    obtain rfl : f = [] := h
    exact ⟨[], w, rfl, (fun a ha => nomatch ha)⟩
  | al fr rt L nd =>
    obtain ⟨f', r, o, z⟩ := w
    have last : ∀ a ∈ f', New H1 H2 a ∨ ∃ L, Old P g' L a := fun a ha => by
      rcases o a ha with ⟨_, y⟩ | ⟨_, ⟨_, y⟩ | y⟩
      · cases rt with
        | new => exact .inl y
        | old n => exact .inr ⟨_, y⟩
        | unk => exact y.elim
      · exact .inl y
      · exact .inr ⟨_, y⟩
    suffices hh : AccOk P g H H2 (.al fr rt L nd) (f ++ f') from ⟨f', r, hh, last⟩
    cases rt with
    | new =>
      cases L with
      | nil =>
        have nw : ∀ a ∈ f', New H1 H2 a := fun a ha => by
          rcases o a ha with ⟨_, y⟩ | ⟨_, ⟨_, y⟩ | y⟩
          · exact y
          · exact y
          · cases y.1
        refine ⟨fun a ha => ?_, fun hnd => List.nodup_append.mpr ⟨h.2 hnd, z.1 hnd, ?_⟩⟩
        · rcases List.mem_append.mp ha with ha | ha
          · exact h.1 a ha
          · exact (nw a ha).back e
        · intro a ha b hb hab
          subst hab
          exact th a ha (nw a hb).1
      | cons x rL =>
        intro a ha
        rcases List.mem_append.mp ha with ha | ha
        · exact h a ha
        · rcases o a ha with ⟨_, y⟩ | ⟨_, ⟨_, y⟩ | y⟩
          · exact .inl (New.back y e)
          · exact .inl (y.back e)
          · exact old y
    | old n =>
      intro a ha
      rcases List.mem_append.mp ha with ha | ha
      · exact h a ha
      · rcases o a ha with ⟨_, y⟩ | ⟨_, ⟨_, y⟩ | y⟩
        · refine old ⟨?_, y.2⟩
          rw [List.mem_singleton.mp y.1]
          exact List.mem_cons_self
        · exact .inl (y.back e)
        · exact old ⟨List.mem_cons_of_mem _ y.1, y.2⟩
    | unk =>
      intro a ha
      rcases List.mem_append.mp ha with ha | ha
      · exact h a ha
      · rcases o a ha with ⟨_, y⟩ | ⟨_, ⟨_, y⟩ | y⟩
        · exact y.elim
        · exact .inl (y.back e)
        · exact old y
theorem AccOk.val {mg : Mg} {P : Fm} {g : Addr → Nat} {H H2 : Hp} {m : Md} {f : List Addr} {ds : List D} {vs : List V} {p : Addr} (h : AccOk P g H H2 m f) (r : RepL mg H2 ds vs f) (hp : H2 p = some (.lst vs)) (hn : H p = none) (hf : p ∉ f) : Val mg P g H H2 m.lc (.lst ds) (.ref p) := by
  have nw : New H H2 p := ⟨hn, by rw [hp]; trivial⟩
  have rr : Rep mg H2 (.lst ds) (.ref p) (p :: f) := by
    simp only [Rep]
    exact ⟨p, vs, f, rfl, hp, r, rfl⟩
  have gen : ∀ (L : List Nat), (∀ a ∈ f, New H H2 a ∨ Old P g L a) → ∀ nd : Bool, (nd = true → f.Nodup) → Val mg P g H H2 (.al true .new L nd) (.lst ds) (.ref p) := fun L hh nd hnd => by
    refine ⟨p :: f, rr, fun a ha => ?_, .cons hf hnd⟩
    rcases List.mem_cons.mp ha with rfl | ha
    · exact .inl ⟨rfl, nw⟩
    · exact .inr ⟨.inl fun e => by cases e; exact hf ha, (hh a ha).imp (fun y => ⟨rfl, y⟩) id⟩
  cases m with
  | flat =>
    obtain rfl : f = [] := h
    refine ⟨[p], rr, fun a ha => ?_, .of (by simp)⟩
    rw [List.mem_singleton.mp ha]
    exact .inl ⟨rfl, nw⟩
  | al fr rt L nd =>
    cases rt with
    | new =>
      cases L with
      | nil => exact gen [] (fun a ha => .inl (h.1 a ha)) nd h.2
      | cons x r => exact gen _ h false fun z => nomatch z
    | old n => exact gen _ h false fun z => nomatch z
    | unk => exact gen _ h false fun z => nomatch z

theorem RepL.updL {mg : Mg} {H : Hp} {a : Addr} {o : HO} {us : List V} {ds : List D} {vs : List V} {f : List Addr} (h : RepL mg H ds vs f) (hn : a ∉ f) (ha : H a = some (.lst us)) : RepL mg (upd H a o) ds vs f := by
  refine h.keep (fun b hb => ?_) ⟨fun b xs r => ?_, fun b o vs r => ?_, fun b o vs r => ?_⟩
  · have : b ≠ a := fun z => hn (by rw [← z]; exact hb)
    exact ⟨fun u _ r => by unfold Rd at r ⊢; rw [upd_ne this]; exact r, fun vs r => by rw [upd_ne this]; exact r, fun _ _ _ r => by rw [upd_ne this]; exact r⟩
  · have : b ≠ a := fun z => by
      rw [z, ha] at r
      cases r
    rw [upd_ne this]
    exact r
  · have : b ≠ a := fun z => by rw [z, ha] at r; cases r
    rw [upd_ne this]
    exact r
  · have : b ≠ a := fun z => by rw [z, ha] at r; cases r
    rw [upd_ne this]
    exact r
section
variable {X : Cx} {W : L2.WX} {LL : List Nat} {Γ Γ1 : List Kd} {pos : Pos}
/-- the reading of a comprehension -/
theorem lc_read {mg : Mg} {wi : TI} {own : List (Str × Nat)} {si : List D → Option (List D)} {t : Tv} {c : List D → Option Bool} {se : Ev} {labs : List Nat} {me m2 : Md} {S : List Nat} {n : Nat} (hn : n ≠ 0) (hS : ∀ i ∈ S, i ∈ own.map (·.2))
    {P : Fm} {g : Addr → Nat} {ρ : List D} {σ : L2.St} {H : Hp} {d : D} {Q : VK} (s : Sta mg P LL Γ g ρ σ H) (e : eLc si t c se ρ = some d)
    (ki : ∀ ds (R : It → Hp → Prop), si ρ = some ds → (∀ J H', Ext H H' → ds.length ≤ sizeLine → Iter mg P g H H' J labs me ds → R J H') → wi σ H R)
    (q : ∀ v H', Ext H H' → Val mg P g H H' m2.lc d v → Q v H') :
    tLc wi (canG mg (wipeK Γ (own.map (·.2))) (me.kindI n) t Γ1 S) (canB mg LL Γ1 c) (canT mg LL Γ1 se m2) (own.map (·.2)) σ H Q := by
  obtain ⟨ds, e1, e⟩ := bind_some e
  obtain ⟨ys, e2, e⟩ := bind_some e
  cases e
  refine ki ds _ e1 fun J H1 x1 hz it => ?_
  obtain ⟨fpI, lb, walk⟩ := it
  intro Dp hD
  have s1 : Sta mg P LL Γ (relab g H H1 .non n n) ρ σ H1 := s.relab x1
  have hg1 : ∀ a, H a ≠ none → relab g H H1 .non n n a = g a := fun a h => relab_old h
  generalize eg1 : relab g H H1 .non n n = g1 at s1 hg1
  refine ⟨fun i m Hc => m = ds.length - i ∧ i ≤ ds.length ∧ ∃ done rest vs f, ys = done ++ rest ∧ lcL t c se ρ (ds.drop i) = some rest ∧ Hc Dp = some (.lst vs) ∧ vs.length ≤ i ∧ RepL mg Hc done vs f ∧ Dp ∉ f ∧ AccOk P g H Hc m2 f ∧ Ext H1 Hc,
    ⟨ds.length, rfl, Nat.zero_le _, [], ys, [], [], rfl, e2, upd_same, Nat.le_refl _, by simp [RepL], by simp, .nil, Ext.put hD⟩, ?_⟩
  rintro i m Hc ⟨rfl, hil, done, rest, vs, f, rfl, e3, hDc, hlen, rl, nD, acc, xc⟩
  obtain ⟨wk, wstop⟩ := walk Hc (xc.kept _)
  by_cases hi' : i < ds.length
  · refine .inr ?_
    obtain ⟨go, yl⟩ := wk i ds[i] (List.getElem?_eq_getElem hi')
    rw [List.drop_eq_getElem_cons hi'] at e3
    obtain ⟨ρ1, b, et, ec, hb⟩ := lcL_cons e3
    refine ⟨go, fun H' => ∃ m', m' < ds.length - i ∧ (m' = ds.length - (i + 1) ∧ i + 1 ≤ ds.length ∧ ∃ done' rest' vs f, done ++ rest = done' ++ rest' ∧ lcL t c se ρ (ds.drop (i + 1)) = some rest' ∧ H' Dp = some (.lst vs) ∧ vs.length ≤ i + 1 ∧ RepL mg H' done' vs f ∧ Dp ∉ f ∧ AccOk P g H H' m2 f ∧ Ext H1 H'), fun H' h => h, fun x H3 y => ?_⟩
    obtain ⟨x3, fx, r, of, sub⟩ := yl x H3 y
    have x13 : Ext H1 H3 := xc.trans x3
    have s3 : Sta mg P LL (wipeK Γ (own.map (·.2))) g1 ρ (wipe σ (own.map (·.2))) H3 := ⟨s1.loc.ext x13, Cells.wipe (s1.ext x13).cells _⟩
    refine ⟨P, LL, g1, ρ, ds[i], ρ1, s3, fps_cell s.loc r of hn (fun a ha => by rw [eg1]), et, fun σ4 s4 w4 => ⟨?_, ?_⟩⟩
    · rw [w4 _ hS]
      -- wiping twice
      apply List.ext_getElem?
      intro j
      rw [wipe_get, wipe_get]
      split
      · cases σ[j]? <;> rfl
      · rfl
    refine ⟨P, g1, ρ1, b, s4, ec, fun H4 x4 => ?_⟩
    have x34 : Ext Hc H4 := x3.trans x4
    rcases hb with ⟨rfl, y', r', ey, er, rfl⟩ | ⟨rfl, er⟩
    · refine iteT ⟨P, g1, ρ1, y', s4.ext x4, ey, fun v5 H5 x5 w5 => ?_⟩
      have x35 : Ext Hc H5 := x34.trans x5
      have hD5 : H5 Dp = some (.lst vs) := x35 _ _ hDc
      have x05 : Ext H H4 := x1.trans (xc.trans x34)
      obtain ⟨f', rf', acc', last⟩ := AccOk.add (mg := mg) (LL := LL) (acc.ext fun a ha u h => x35 a u h) (fun a ha z => rl.there a ha (x34.nope z)) x05 x5 w5 s.loc hg1 fun a L h0 o => by
        refine ⟨h0, ?_⟩
        by_cases hz0 : g1 a = 0
        · exact absurd h0 (s.loc.out a (o.2 hz0))
        · obtain ⟨u, eu, mu | fu⟩ := s1.loc.at_ a hz0
          · have := (xc.trans (x34.trans x5)) a u eu
            rw [this]; exact mu
          · exact absurd h0 (s.loc.fzn fu)
      have hDf' : Dp ∉ f' := fun hm => by
        rcases last Dp hm with y | ⟨L, y⟩
        · have := y.1
          rw [x34 _ _ hDc] at this
          cases this
        · exact y.there s1.loc hD
      have nDf : Dp ∉ f ++ f' := fun hm => (List.mem_append.mp hm).elim nD hDf'
      refine ⟨vs, hD5, Nat.lt_of_le_of_lt hlen (Nat.lt_of_lt_of_le hi' hz), _, by omega, rfl, hi', done ++ [y'], r', vs ++ [v5], f ++ f', by simp, er, upd_same, by simp; omega, ?_, nDf, ?_, ?_⟩
      · exact ((rl.ext x35).append (.one rf')).updL nDf hD5
      · exact acc'.ext fun a ha u h => by rw [upd_ne (fun z => nDf (by rw [← z]; exact ha))]; exact h
      · intro a u h
        rw [upd_ne (ne_of_none h hD)]
        exact x35 a u (xc a u h)
    · refine iteF ⟨_, by omega, rfl, hi', done, rest, vs, f, rfl, er, x34 _ _ hDc, Nat.le_succ_of_le hlen, rl.ext x34, nD, acc.ext fun a ha u h => x34 a u h, xc.trans x34⟩
  · have : i = ds.length := by omega
    subst this
    refine .inl ⟨wstop, ?_⟩
    rw [List.drop_length] at e3
    cases e3
    have w := acc.val rl hDc (x1.nope hD) nD
    rw [← List.append_nil done] at w
    exact q _ Hc (x1.trans xc) w
theorem ex_lc {elt tg iter : Expr} {ifs : List Expr} {scope : Scope} {own : List (Str × Nat)} {si : List D → Option (List D)} {t : Tv} {c : List D → Option Bool} {se : Ev} {labs : List Nat} {me m2 : Md} {S : List Nat} (n : Nat)
    (hc : X.calm = true) (hN : X.N.Nodup) (hi : EI X LL Γ tg iter si labs me) (ok : BlkOk X.N X.env.scope scope own)
    (hg : ∀ (s : Shared) (H : Hp) (C : Addr) (cl : List (Str × Addr)) (fp : List Addr), EG (X.blk s H scope (compEnvC scope cl C X.env) fp) (wipeK Γ (own.map (·.2))) tg (me.kindI n) t Γ1 S)
    (ht : ∀ (s : Shared) (H : Hp) (C : Addr) (cl : List (Str × Addr)) (fp : List Addr), ETs (X.blk s H scope (compEnvC scope cl C X.env) fp) LL Γ1 ifs c)
    (he : ∀ (s : Shared) (H : Hp) (C : Addr) (cl : List (Str × Addr)) (fp : List Addr), EX (X.blk s H scope (compEnvC scope cl C X.env) fp) LL Γ1 elt se m2)
    (hS : ∀ i ∈ S, i ∈ own.map (·.2) := by decide) (hs : ∀ x, foldedSetIterable iter X.env x = pure x := by intro _; rfl) (hn : n ≠ 0 := by decide) :
    EX X LL Γ (.ListComp elt [⟨tg, iter, ifs, 0⟩] scope pos) (eLc si t c se) m2.lc := by
  obtain ⟨wi, pi, ki⟩ := hi
  refine ⟨_, pe_lc (g := canG X.vm (wipeK Γ (own.map (·.2))) (me.kindI n) t Γ1 S) (tt := canB X.vm LL Γ1 c) (te := canT X.vm LL Γ1 se m2) hc hN pi ok (fun s H C cl fp => eg_can (hg s H C cl fp)) (fun s H C cl fp => ets_can (ht s H C cl fp)) (fun s H C cl fp => ex_can (he s H C cl fp)) hs, fun P g ρ σ H d Q s e q => ?_⟩
  exact lc_read hn hS s e (fun ds R h => ki P g ρ σ H ds R s h) q
theorem sx_setLc {i : Nat} {y : Str} {py : Pos} {spos : Pos} {sc : Sc} {elt tg iter : Expr} {ifs : List Expr} {scope : Scope} {own : List (Str × Nat)} {si : List D → Option (List D)} {t : Tv} {c : List D → Option Bool} {se : Ev} {labs : List Nat} {me m2 : Md} {S : List Nat} (n n' k' : Nat)
    (hc : X.calm = true) (hN : X.N.Nodup) (hy : X.N[i]? = some y) (hyl : X.env.scope.names.lookup y = some .local)
    (hsw : swapsWith (.ListComp elt [⟨tg, iter, ifs, 0⟩] scope pos) (some (.Name y py)) spos.line X.env = pure true) (hi : EI X sc.LL Γ tg iter si labs me) (ok : BlkOk X.N X.env.scope scope own)
    (hg : ∀ (s : Shared) (H : Hp) (C : Addr) (cl : List (Str × Addr)) (fp : List Addr), EG (X.blk s H scope (compEnvC scope cl C X.env) fp) (wipeK Γ (own.map (·.2))) tg (me.kindI n) t Γ1 S)
    (ht : ∀ (s : Shared) (H : Hp) (C : Addr) (cl : List (Str × Addr)) (fp : List Addr), ETs (X.blk s H scope (compEnvC scope cl C X.env) fp) sc.LL Γ1 ifs c)
    (he : ∀ (s : Shared) (H : Hp) (C : Addr) (cl : List (Str × Addr)) (fp : List Addr), EX (X.blk s H scope (compEnvC scope cl C X.env) fp) sc.LL Γ1 elt se m2)
    (hS : ∀ i ∈ S, i ∈ own.map (·.2) := by decide) (hs : ∀ x, foldedSetIterable iter X.env x = pure x := by intro _; rfl) (hn : n ≠ 0 := by decide) (h1 : n' ≠ 0 := by decide) (h2 : k' ≠ 0 := by decide) :
    SX X W sc Γ (.Assign [.Name y py] (.ListComp elt [⟨tg, iter, ifs, 0⟩] scope pos) spos) (sSet i (eLc si t c se)) (Γ.set i (m2.lc.kind n' k')) := by
  obtain ⟨wi, pi, ki⟩ := hi
  refine ⟨_, ps_setLc (g := canG X.vm (wipeK Γ (own.map (·.2))) (me.kindI n) t Γ1 S) (tt := canB X.vm sc.LL Γ1 c) (te := canT X.vm sc.LL Γ1 se m2) hc hN hy hyl hsw pi ok (fun s H C cl fp => eg_can (hg s H C cl fp)) (fun s H C cl fp => ets_can (ht s H C cl fp)) (fun s H C cl fp => ex_can (he s H C cl fp)) hs, fun P g ρ σ H o De s e w => ?_⟩
  obtain ⟨d, e1, e⟩ := bind_some e
  cases e
  refine lc_read hn hS s e1 (fun ds R h => ki P g ρ σ H ds R s h) fun v H' x vl => ?_
  exact w (relab g H H' v n' k') _ H' (.relab x) ⟨s.loc.relab x, Cells.set i (s.cells.relab s.loc x) (vl.cell s.loc h1 h2)⟩
end
end VV

/-! ## VList -/
namespace VV
open PySem PySem.Spec PyProof.Rows L2

/-! ### parts of lists -/
section
variable {mg : Mg} {H : Hp}
theorem RepL.splitAt : ∀ {ds : List D} {vs : List V} {f : List Addr} (n : Nat), RepL mg H ds vs f → ∃ f1 f2, f = f1 ++ f2 ∧ RepL mg H (ds.take n) (vs.take n) f1 ∧ RepL mg H (ds.drop n) (vs.drop n) f2
  | ds, vs, f, 0, h => ⟨[], f, rfl, by simp [RepL], by simpa using h⟩
  | [], _, _, n + 1, h => by
    simp only [RepL] at h
    obtain ⟨rfl, rfl⟩ := h
    exact ⟨[], [], rfl, by simp [RepL], by simp [RepL]⟩
  | d :: ds, _, _, n + 1, h => by
    simp only [RepL] at h
    obtain ⟨v, r, f1, f2, rfl, h1, h2, rfl⟩ := h
    obtain ⟨g1, g2, rfl, a, b⟩ := RepL.splitAt n h2
    refine ⟨f1 ++ g1, g2, by simp, ?_, by simpa using b⟩
    simp only [List.take_succ_cons, RepL]
    exact ⟨v, _, f1, g1, rfl, h1, a, rfl⟩
def cutG {α : Type} (xs : List α) (lo hi : Option Int) : List α := (xs.drop (HT.sIx xs.length 0 lo)).take (HT.sIx xs.length xs.length hi - HT.sIx xs.length 0 lo)
theorem RepL.cut {ds : List D} {vs : List V} {f : List Addr} (lo hi : Option Int) (h : RepL mg H ds vs f) : ∃ f1 f' f2, f = f1 ++ f' ++ f2 ∧ RepL mg H (cutG ds lo hi) (cutV vs lo hi) f' := by
  unfold cutG cutV
  rw [h.length]
  obtain ⟨f1, g, rfl, _, b⟩ := h.splitAt (HT.sIx ds.length 0 lo)
  obtain ⟨g1, g2, rfl, c, _⟩ := b.splitAt (HT.sIx ds.length ds.length hi - HT.sIx ds.length 0 lo)
  exact ⟨f1, g1, g2, by simp, c⟩
theorem RepL.flats : ∀ {ds : List D} {vs : List V} {f : List Addr}, RepL mg H ds vs f → D.isFlatL ds = true → RepL mg H ds vs [] := fun h e => by
  have := h.flat e
  subst this
  exact h
theorem RepL.rep {ds : List D} {vs : List V} (h : RepL mg H ds vs []) : ∀ k : Nat, RepL mg H (List.replicate k ds).flatten (List.replicate k vs).flatten []
  | 0 => by simp [RepL]
  | k + 1 => by
    rw [List.replicate_succ, List.replicate_succ, List.flatten_cons, List.flatten_cons]
    exact h.append (RepL.rep h k)
end
/-- what a list or tuple has -/
theorem seq_of {mg : Mg} {P : Fm} {g : Addr → Nat} {H H1 : Hp} {m : Md} {l : List D} {v : V} (h : Val mg P g H H1 m (.lst l) v) : ∃ a vs, v = .ref a ∧ H1 a = some (.lst vs) ∧ vs.length = l.length ∧ (∀ lo hi, ValL mg P g H H1 m.child (cutG l lo hi) (cutV vs lo hi)) ∧ ValL mg P g H H1 m.child l vs := by
  obtain ⟨fp, r, o, lb, ch⟩ := h.labs
  simp only [Rep] at r
  obtain ⟨a, vs, f, rfl, ha, h2, rfl⟩ := r
  refine ⟨a, vs, rfl, ha, h2.length, fun lo hi => ?_, ?_⟩
  · obtain ⟨f1, f', f2, rfl, r'⟩ := h2.cut lo hi
    exact ⟨f', r', ch f' ⟨f1, f2, .inl ⟨a, rfl, rfl⟩⟩⟩
  · exact ⟨f, h2, ch f ⟨[], [], .inl ⟨a, rfl, by simp⟩⟩⟩
theorem seq_ofT {mg : Mg} {P : Fm} {g : Addr → Nat} {H H1 : Hp} {m : Md} {l : List D} {v : V} (h : Val mg P g H H1 m (.tup l) v) : ∃ a vs, v = .ref a ∧ H1 a = some (.tup vs) ∧ vs.length = l.length ∧ (∀ lo hi, ValL mg P g H H1 m.child (cutG l lo hi) (cutV vs lo hi)) ∧ ValL mg P g H H1 m.child l vs := by
  obtain ⟨fp, r, o, lb, ch⟩ := h.labs
  have r0 := r
  simp only [Rep] at r
  obtain ⟨a, vs, rfl, ha, h2⟩ := r
  have nt : ∀ b, V.ref a = .ref b → b ∉ fp := fun b e => by cases e; exact r0.notup (.inl ha)
  refine ⟨a, vs, rfl, ha, h2.length, fun lo hi => ?_, ?_⟩
  · obtain ⟨f1, f', f2, rfl, r'⟩ := h2.cut lo hi
    exact ⟨f', r', ch f' ⟨f1, f2, .inr ⟨rfl, nt⟩⟩⟩
  · exact ⟨fp, h2, ch fp ⟨[], [], .inr ⟨by simp, nt⟩⟩⟩

/-! ### slices -/
def EO (X : Cx) (LL : List Nat) (Γ : List Kd) (e : Option Expr) (sem : List D → Option (Option Int)) : Prop :=
  ∃ t, PO X e t ∧ ∀ P g ρ σ H r Q, Sta X.vm P LL Γ g ρ σ H → sem ρ = some r → (∀ H', Ext H H' → Q r H') → t σ H Q
def oNone : List D → Option (Option Int) := fun _ => some none
def oSome (s : Ev) : List D → Option (Option Int) := fun ρ => do match (← s ρ) with
  | .int i => some (some i)
  | _ => none
def dSl : D → Option Int → Option Int → Option D
  | .lst l, lo, hi => some (.lst (cutG l lo hi))
  | .scr l, lo, hi => some (.lst (cutG l lo hi))
  | .tup l, lo, hi => some (.tup (cutG l lo hi))
  | .str z, lo, hi => if z.length ≤ sizeLine then some (.str (cutS z lo hi)) else none
  | _, _, _ => none
def eSl (s : Ev) (lo hi : List D → Option (Option Int)) : Ev := fun ρ => do
  let d ← s ρ
  let l ← lo ρ
  let h ← hi ρ
  dSl d l h
section
variable {X : Cx} {LL : List Nat} {Γ : List Kd} {pos p2 : Pos} {e : Expr} {se : Ev} {m : Md} {lo hi : Option Expr} {sl sh : List D → Option (Option Int)}
theorem eo_none : EO X LL Γ none oNone := ⟨_, po_none, fun P g ρ σ H r Q s e q => by cases e; exact q H Ext.refl⟩
theorem eo_some (h : EX X LL Γ e se m) : EO X LL Γ (some e) (oSome se) := by
  obtain ⟨t, p, k⟩ := h
  refine ⟨_, po_some p, fun P g ρ σ H r Q s e q => ?_⟩
  obtain ⟨d, e1, e⟩ := bind_some e
  refine k P g ρ σ H d _ s e1 fun v H' x w => ?_
  obtain ⟨fp, rr, _⟩ := w.labs
  split at e
  · cases e
    obtain rfl := rInt rr
    exact ⟨_, rfl, q H' x⟩
  · cases e
theorem slice_parts (he : EX X LL Γ e se m) (hl : EO X LL Γ lo sl) (hh : EO X LL Γ hi sh) : ∃ te tl th, PE X e te ∧ PO X lo tl ∧ PO X hi th ∧ ∀ (P : Fm) g ρ σ H (Q : V → Option Int → Option Int → Hp → Prop) d l h, Sta X.vm P LL Γ g ρ σ H → se ρ = some d → sl ρ = some l → sh ρ = some h →
    (∀ v H', Ext H H' → Val X.vm P g H H' m d v → Q v l h H') → te σ H fun x H1 => tl σ H1 fun l H2 => th σ H2 fun u H3 => Q x l u H3 := by
  obtain ⟨te, pe, ke⟩ := he
  obtain ⟨tl, pl, kl⟩ := hl
  obtain ⟨th, ph, kh⟩ := hh
  refine ⟨te, tl, th, pe, pl, ph, fun P g ρ σ H Q d l h s e1 e2 e3 q => ?_⟩
  refine ke P g ρ σ H d _ s e1 fun v H1 x1 w => ?_
  refine kl P g ρ σ H1 l _ (s.ext x1) e2 fun H2 x2 => ?_
  refine kh P g ρ σ H2 h _ (s.ext (x1.trans x2)) e3 fun H3 x3 => ?_
  exact q v H3 (x1.trans (x2.trans x3)) (w.ext (x2.trans x3))
/-- of a list -/
theorem ex_slL (he : EX X LL Γ e se m) (hl : EO X LL Γ lo sl) (hh : EO X LL Γ hi sh) : EX X LL Γ (.Subscript e (.Slice lo hi none p2) pos) (eSl (eChk D.isLst se) sl sh) m.child.lst := by
  obtain ⟨te, tl, th, pe, pl, ph, k⟩ := slice_parts he hl hh
  refine ⟨_, pe_slice sl_list pe pl ph, fun P g ρ σ H d Q s e q => ?_⟩
  obtain ⟨d0, e1, e⟩ := bind_some e
  obtain ⟨l, e2, e⟩ := bind_some e
  obtain ⟨h, e3, e⟩ := bind_some e
  obtain ⟨e1, hc⟩ := Option.filter_eq_some_iff.mp e1
  refine k P g ρ σ H (fun x l u H3 => rSlL X.K x l u H3 Q) d0 l h s e1 e2 e3 fun v H' x w => ?_
  cases d0 with
  | lst ds =>
    cases e
    obtain ⟨a, vs, rfl, ha, _, cut, _⟩ := seq_of w
    exact ⟨a, vs, rfl, SqL.of ha, fun p hp => q _ _ (x.trans (Ext.put hp)) (val_lst (cut l h) x hp)⟩
  | _ => cases hc
/-- a tuple that stands already -/
theorem val_tup_at {mg : Mg} {P : Fm} {g : Addr → Nat} {H H1 : Hp} {m : Md} {ds : List D} {vs : List V} {p : Addr} (h : ValL mg P g H H1 m ds vs) (hp : H1 p = some (.tup vs)) : Val mg P g H H1 m.tup (.tup ds) (.ref p) := by
  obtain ⟨fp, r, q⟩ := h
  have rr : Rep mg H1 (.tup ds) (.ref p) fp := by
    simp only [Rep]
    exact ⟨p, vs, rfl, hp, r⟩
  cases m with
  | flat =>
    obtain rfl : fp = [] := q
    exact rr
  | al fr rt L nd => exact ⟨fp, rr, fun a ha => .inr ⟨.inr rfl, q.1 a ha⟩, .unk q.2⟩
theorem cutG_whole {α : Type} {l : List α} {lo hi : Option Int} (h : HT.sIx l.length 0 lo = 0 ∧ HT.sIx l.length l.length hi = l.length) : cutG l lo hi = l := by
  unfold cutG
  rw [h.1, h.2]
  simp
theorem ex_slT (he : EX X LL Γ e se m) (hl : EO X LL Γ lo sl) (hh : EO X LL Γ hi sh) : EX X LL Γ (.Subscript e (.Slice lo hi none p2) pos) (eSl (eChk D.isTup se) sl sh) m.child.tup := by
  obtain ⟨te, tl, th, pe, pl, ph, k⟩ := slice_parts he hl hh
  refine ⟨_, pe_slice sl_tupA pe pl ph, fun P g ρ σ H d Q s e q => ?_⟩
  obtain ⟨d0, e1, e⟩ := bind_some e
  obtain ⟨l, e2, e⟩ := bind_some e
  obtain ⟨h, e3, e⟩ := bind_some e
  obtain ⟨e1, hc⟩ := Option.filter_eq_some_iff.mp e1
  refine k P g ρ σ H (fun x l u H3 => rSlA X.K x l u H3 Q) d0 l h s e1 e2 e3 fun v H' x w => ?_
  cases d0 with
  | tup ds =>
    cases e
    obtain ⟨a, vs, rfl, ha, hlen, cut, whole⟩ := seq_ofT w
    refine ⟨a, vs, rfl, .inl (.inl ha), fun hw => ?_, fun hw p hp => q _ _ (x.trans (Ext.put hp)) (val_tup (cut l h) hp)⟩
    rw [hlen] at hw
    rw [cutG_whole hw] at q
    exact q _ _ x (val_tup_at whole ha)
  | _ => cases hc
end

/-! ### [x] * n, a + b, list(a), tuple(a) -/
def dRep : List D → Option D
  | [.lst l, .int k] => if D.isFlatL l ∧ -1000000 ≤ k ∧ k ≤ 1000000 ∧ l.length * k.toNat ≤ 1000000 then some (.lst (List.replicate k.toNat l).flatten) else none
  | _ => none
theorem line_of {n : Nat} (h : n ≤ 1000000) : n ≤ sizeLine := by rw [sizeLine_eq]; omega
section
variable {X : Cx} {LL : List Nat} {Γ : List Kd} {pos p : Pos} {a b : Expr} {sa sb : Ev} {ma mb : Md}
theorem ex_rep (ha : EX X LL Γ a sa ma) (hb : EX X LL Γ b sb mb) : EX X LL Γ (.BinOp a .Mult b pos) (eP dRep (aCons sa (aCons sb aNil))) (.al false .new [] true) := by
  obtain ⟨ta, tb, pa, pb, k⟩ := two ha hb
  refine ⟨_, pe_op op_rep pa pb, fun P g ρ σ H d Q s e q => ?_⟩
  obtain ⟨ds, e1, e⟩ := bind_some e
  refine k P g ρ σ H ds _ s e1 fun d1 d2 v w H' eds x va vb vl => ?_
  subst eds
  unfold dRep at e
  split at e
  · split at e
    · rename_i l n eq hc
      cases eq
      cases e
      obtain ⟨fp, rr, _⟩ := vb.labs
      obtain rfl := rInt rr
      obtain ⟨c, vs, rfl, hv, hlen, _, fl, rl, _⟩ := seq_of va
      have r0 := rl.flats hc.1
      refine ⟨c, n, vs, rfl, rfl, hv, by omega, by omega, ?_, fun p hp => ?_⟩
      · rw [hlen]; exact line_of hc.2.2.2
      · exact q _ _ (x.trans (Ext.put hp)) (val_lst (m := .flat) ⟨[], r0.rep _, rfl⟩ x hp)
    · cases e
  · cases e
/-- list(e) -/
def dList : List D → Option D
  | [.lst l] => some (.lst l)
  | [.tup l] => some (.lst l)
  | _ => none
/-- calls of one argument by its own value -/
theorem one_arg {sem : Ev} {m : Md} {t : TE} {P : Fm} {g : Addr → Nat} {ρ : List D} {σ : L2.St} {H : Hp} {ds : List D} {Q : List V → Hp → Prop}
    (k : ∀ P g ρ σ H d Q, Sta X.vm P LL Γ g ρ σ H → sem ρ = some d → (∀ v H', Ext H H' → Val X.vm P g H H' m d v → Q v H') → t σ H Q)
    (s : Sta X.vm P LL Γ g ρ σ H) (e1 : aCons sem aNil ρ = some ds) (q : ∀ d v H', ds = [d] → Ext H H' → Val X.vm P g H H' m d v → Q [v] H') : tCons t tNil σ H Q := by
  obtain ⟨d, e2, e1⟩ := bind_some e1
  obtain ⟨r, e3, e1⟩ := bind_some e1
  cases e3
  cases e1
  exact k P g ρ σ H d _ s e2 fun v H' x w => q d v H' rfl x w
theorem ex_list {x : Str} (hg : Gl X x) (hm : X.mg x = none) (hv : bootBuiltins x = some (.type "list")) (ha : EX X LL Γ a sa ma) (hn : x ≠ "__name__" := by decide) (hdb : (x == ("__debug__" : Str)) = false := by decide)
    (he : starEach [a] X.env = (false, eval a X.env) :: starEach [] X.env := by rfl) : EX X LL Γ (.Call (.Name x p) [a] [] pos) (eP dList (aCons sa aNil)) ma.child.lst := by
  obtain ⟨t, pt, k⟩ := ha
  refine ⟨_, pe_callTy call_list_of hg hm hv (pa_cons pt pa_nil he) hn hdb he, fun P g ρ σ H d Q s e q => ?_⟩
  obtain ⟨ds, e1, e⟩ := bind_some e
  refine one_arg k s e1 fun d0 v H1 eds x1 w => ?_
  subst eds
  cases d0 with
  | lst l =>
    cases e
    obtain ⟨c, vs, rfl, hv, _, _, vl⟩ := seq_of w
    exact ⟨c, vs, rfl, .inl (SqL.of hv), fun p hp => q _ _ (x1.trans (Ext.put hp)) (val_lst vl x1 hp)⟩
  | tup l =>
    cases e
    obtain ⟨c, vs, rfl, hv, _, _, vl⟩ := seq_ofT w
    exact ⟨c, vs, rfl, .inr (.inl (.inl hv)), fun p hp => q _ _ (x1.trans (Ext.put hp)) (val_lst vl x1 hp)⟩
  | _ => cases e
end

/-! ### numbers from numbers, bools, lists -/
def dIntC : List D → Option D
  | [.int i] => some (.int i)
  | [.bl b] => some (.int (if b then 1 else 0))
  | _ => none
def intsOf : List D → Option (List Int)
  | [] => some []
  | .int i :: r => (intsOf r).map (i :: ·)
  | _ :: _ => none
def boolsOf : List D → Option (List Bool)
  | [] => some []
  | .bl i :: r => (boolsOf r).map (i :: ·)
  | _ :: _ => none
theorem intsOf_rep {mg : Mg} {H : Hp} : ∀ {l : List D} {ns : List Int} {vs : List V} {f : List Addr}, intsOf l = some ns → RepL mg H l vs f → vs = ns.map V.int
  | [], _, _, _, e, h => by simp only [RepL] at h; cases e; rw [h.1]; rfl
  | d :: r, _, _, _, e, h => by
    simp only [RepL] at h
    obtain ⟨v, vr, f1, f2, rfl, h1, h2, _⟩ := h
    unfold intsOf at e
    split at e
    · rename_i eq; cases eq
    · rename_i eq
      cases eq
      obtain ⟨ns, e1, rfl⟩ := Option.map_eq_some_iff.mp e
      rw [rInt h1, intsOf_rep e1 h2]; rfl
    · cases e
theorem boolsOf_rep {mg : Mg} {H : Hp} : ∀ {l : List D} {ns : List Bool} {vs : List V} {f : List Addr}, boolsOf l = some ns → RepL mg H l vs f → vs = ns.map V.bl
  | [], _, _, _, e, h => by simp only [RepL] at h; cases e; rw [h.1]; rfl
  | d :: r, _, _, _, e, h => by
    simp only [RepL] at h
    obtain ⟨v, vr, f1, f2, rfl, h1, h2, _⟩ := h
    unfold boolsOf at e
    split at e
    · rename_i eq; cases eq
    · rename_i eq
      cases eq
      obtain ⟨ns, e1, rfl⟩ := Option.map_eq_some_iff.mp e
      rw [rBl h1, boolsOf_rep e1 h2]; rfl
    · cases e
def itemsOf : D → Option (List D)
  | .lst l => some l
  | .scr l => some l
  | _ => none
def dSum : List D → Option D
  | [d] => do some (.int (← intsOf (← itemsOf d)).sum)
  | _ => none
def dAll : List D → Option D
  | [d] => do some (.bl ((← boolsOf (← itemsOf d)).all id))
  | _ => none
section
variable {X : Cx}
theorem items_sq {mg : Mg} {H : Hp} {d : D} {l : List D} {v : V} {f : List Addr} (e : itemsOf d = some l) (h : Rep mg H d v f) : ∃ a vs f', v = .ref a ∧ SqL mg.K H a vs ∧ RepL mg H l vs f' := by
  cases d with
  | lst l' =>
    cases e
    simp only [Rep] at h
    obtain ⟨a, vs, f', rfl, ha, h2, _⟩ := h
    exact ⟨a, vs, f', rfl, SqL.of ha, h2⟩
  | scr l' =>
    cases e
    simp only [Rep] at h
    obtain ⟨a, vs, rfl, ha, h2, _⟩ := h
    exact ⟨a, vs, [], rfl, ha.sq, h2⟩
  | _ => cases e
theorem cp_int1 : CP X (fun xs H Q => (∃ i, xs = [.int i] ∧ Q (.int i) H) ∨ ∃ k, xs = [.bl k] ∧ Q (.int (if k then 1 else 0)) H) dIntC toFlat := by
  intro P LL g H H1 m ds vs d Q l x vl e q
  obtain ⟨fp, r⟩ := vl.rep
  unfold dIntC at e
  split at e
  · cases e
    obtain ⟨v, rfl, h⟩ := repL1 r
    exact .inl ⟨_, by rw [rInt h], q _ H1 Ext.refl (val_flat rep_int)⟩
  · cases e
    obtain ⟨v, rfl, h⟩ := repL1 r
    exact .inr ⟨_, by rw [rBl h], q _ H1 Ext.refl (val_flat rep_int)⟩
  · cases e
theorem cp_sum : CP X (rSum X.K) dSum toFlat := by
  intro P LL g H H1 m ds vs d Q l x vl e q
  obtain ⟨fp, r⟩ := vl.rep
  unfold dSum at e
  split at e
  · obtain ⟨its, e2, e⟩ := bind_some e
    obtain ⟨ns, e1, e⟩ := bind_some e
    cases e
    obtain ⟨v, rfl, h⟩ := repL1 r
    obtain ⟨a, us, f', rfl, sq, rl⟩ := items_sq e2 h
    rw [intsOf_rep e1 rl] at sq
    exact ⟨a, ns, rfl, sq, q _ H1 Ext.refl (val_flat rep_int)⟩
  · cases e
theorem cp_all : CP X (rAll X.K) dAll toFlat := by
  intro P LL g H H1 m ds vs d Q l x vl e q
  obtain ⟨fp, r⟩ := vl.rep
  unfold dAll at e
  split at e
  · obtain ⟨its, e2, e⟩ := bind_some e
    obtain ⟨ns, e1, e⟩ := bind_some e
    cases e
    obtain ⟨v, rfl, h⟩ := repL1 r
    obtain ⟨a, us, f', rfl, sq, rl⟩ := items_sq e2 h
    rw [boolsOf_rep e1 rl] at sq
    exact ⟨a, ns, rfl, sq, q _ H1 Ext.refl (val_flat rep_bl)⟩
  · cases e
end
end VV

/-! ## VMut -/
namespace VV
open PySem PySem.Spec PyProof.Rows L2

/-! ### zip, enumerate -/
def Md.pair : Md → Md → Md
  | .flat, .flat => .flat
  | .al fr _ L _, .flat => .al fr .unk L false
  | .flat, .al fr _ L _ => .al fr .unk L false
  | .al fr _ L _, .al fr' _ L' _ => .al (fr || fr') .unk (L ++ L') false
theorem fps_pair {P : Fm} {g : Addr → Nat} {H H1 : Hp} {m m' : Md} {f f' : List Addr} (h : Fps P g H H1 m f) (h' : Fps P g H H1 m' f') : Fps P g H H1 (m.pair m') (f ++ f') := by
  cases m with
  | flat =>
    obtain rfl : f = [] := h
    cases m' with
    | flat => exact h'
    | al fr rt L nd => exact ⟨h'.1, fun z => nomatch z⟩
  | al fr rt L nd =>
    cases m' with
    | flat =>
      obtain rfl : f' = [] := h'
      rw [List.append_nil]
      exact ⟨h.1, fun z => nomatch z⟩
    | al fr' rt' L' nd' =>
      refine ⟨fun a ha => ?_, fun z => nomatch z⟩
      rcases List.mem_append.mp ha with ha | ha
      · exact (h.1 a ha).imp (fun ⟨x, y⟩ => ⟨by rw [x]; rfl, y⟩) fun o => ⟨List.mem_append_left _ o.1, o.2⟩
      · exact (h'.1 a ha).imp (fun ⟨x, y⟩ => ⟨by rw [x]; cases fr <;> rfl, y⟩) fun o => ⟨List.mem_append_right _ o.1, o.2⟩
def iZipL (a : List D → Option (List D)) : List D → Option (List D) := fun ρ => do match (← a ρ) with
  | [.lst l, .lst r] => some ((l.zip r).map fun p => .tup [p.1, p.2])
  | _ => none
def iEnumL (s : Ev) : List D → Option (List D) := fun ρ => do match (← s ρ) with
  | .lst l => some (l.mapIdx fun i d => .tup [.int i, d])
  | _ => none
/-- a list's nodes, and each item's -/
theorem lst_nodes {mg : Mg} {P : Fm} {g : Addr → Nat} {H H1 : Hp} {m : Md} {l : List D} {v : V} (h : Val mg P g H H1 m (.lst l) v) : ∃ (a : Addr) (vs : List V) (fp : List Addr), v = .ref a ∧ H1 a = some (.lst vs) ∧ vs.length = l.length ∧ (∀ b ∈ fp, New H H1 b ∨ Old P g m.labs b) ∧ a ∈ fp ∧
    ∀ (i : Nat) (d : D), l[i]? = some d → ∃ x f, vs[i]? = some x ∧ Rep mg H1 d x f ∧ Fps P g H H1 m.child f ∧ ∀ b ∈ f, b ∈ fp := by
  obtain ⟨fp, r, o, lb, ch⟩ := h.labs
  simp only [Rep] at r
  obtain ⟨a, vs, f, rfl, ha, h2, rfl⟩ := r
  refine ⟨a, vs, _, rfl, ha, h2.length, lb, List.mem_cons_self, fun i d e => ?_⟩
  obtain ⟨x, fi, e1, ri, f1, f2, rfl⟩ := h2.parts e
  exact ⟨x, fi, e1, ri, ch fi ⟨f1, f2, .inl ⟨a, rfl, rfl⟩⟩, fun b hb => List.mem_cons_of_mem _ (List.mem_append_left _ (List.mem_append_right _ hb))⟩
section
variable {X : Cx} {LL : List Nat} {Γ : List Kd} {pos p tpos : Pos} {a b : Expr} {sa sb : Ev} {ma mb : Md} {elts : List Expr} {kk : Nat}
theorem ei_zip (hg : Gl X "zip") (hm : X.mg "zip" = none) (ha : EX X LL Γ a sa ma) (hb : EX X LL Γ b sb mb)
    (hs : starEach [a, b] X.env = (false, eval a X.env) :: starEach [b] X.env := by rfl) (hpl : (backTo pos (starEach [b] X.env)).any (·.1) = false := by rfl) (hs2 : starEach [b] X.env = (false, eval b X.env) :: starEach [] X.env := by rfl) :
    EI X LL Γ (.Tuple elts kk tpos) (.Call (.Name "zip" p) [a, b] [] pos) (iZipL (aCons sa (aCons sb aNil))) (ma.labs ++ mb.labs) (ma.child.pair mb.child) := by
  obtain ⟨ta, tb, pa, pb, k⟩ := two ha hb
  refine ⟨_, pi_sized (pi_zip hg hm (pa_cons pa (pa_cons pb pa_nil hs2) hs) hs hpl), fun P g ρ σ H ds R s e q => ?_⟩
  obtain ⟨ds0, e1, e⟩ := bind_some e
  refine k P g ρ σ H ds0 _ s e1 fun d1 d2 v w H' eds x va vb vl => ?_
  subst eds
  split at e
  · rename_i l r eq
    cases eq
    cases e
    obtain ⟨a1, vs1, f1, rfl, h1, n1, lb1, m1, it1⟩ := lst_nodes va
    obtain ⟨a2, vs2, f2, rfl, h2, n2, lb2, m2, it2⟩ := lst_nodes vb
    refine ⟨a1, a2, vs1, vs2, rfl, SqL.of h1, SqL.of h2, fun sz => q _ H' x ?_ ⟨f1 ++ f2, fun c hc => ?_, fun H2 kp => ⟨fun i d hi => ?_, ?_⟩⟩⟩
    · rw [List.length_map, List.length_zip, ← n1]
      exact Nat.le_trans (Nat.min_le_left _ _) (sz.1 a1 vs1 (SqL.of h1))
    · rcases List.mem_append.mp hc with hc | hc
      · exact (lb1 c hc).imp id fun o => ⟨List.mem_append_left _ o.1, o.2⟩
      · exact (lb2 c hc).imp id fun o => ⟨List.mem_append_right _ o.1, o.2⟩
    · rw [List.getElem?_map] at hi
      obtain ⟨pr, e3, rfl⟩ := Option.map_eq_some_iff.mp hi
      obtain ⟨e4, e5⟩ := List.getElem?_zip_eq_some.mp e3
      obtain ⟨y1, g1, z1, r1, o1, s1⟩ := it1 i _ e4
      obtain ⟨y2, g2, z2, r2, o2, s2⟩ := it2 i _ e5
      have b1 : H2 a1 = some (.lst vs1) := kp.1 a1 (List.mem_append_left _ m1) _ h1
      have b2 : H2 a2 = some (.lst vs2) := kp.1 a2 (List.mem_append_right _ m2) _ h2
      refine ⟨⟨vs1, vs2, y1, y2, SqL.of b1, SqL.of b2, z1, z2⟩, fun xv H3 yl => ?_⟩
      obtain ⟨T, u1, u2, rfl, hT, rfl, q1, q2⟩ := yl
      have := q1 vs1 (SqL.of b1)
      rw [z1] at this; cases this
      have := q2 vs2 (SqL.of b2)
      rw [z2] at this; cases this
      have ex : Ext H2 (upd H2 T (.tup [y1, y2])) := Ext.put hT
      refine ⟨ex, g1 ++ g2, ?_, fps_pair o1 o2, fun c hc => ?_⟩
      · simp only [Rep, RepL]
        refine ⟨T, [y1, y2], rfl, upd_same, y1, [y2], g1, g2, rfl, ?_, ⟨y2, [], g2, [], rfl, ?_, ⟨rfl, rfl⟩, by simp⟩, rfl⟩
        · exact Rep.ext (kp.rep r1 fun c hc => List.mem_append_left _ (s1 c hc)) ex
        · exact Rep.ext (kp.rep r2 fun c hc => List.mem_append_right _ (s2 c hc)) ex
      · rcases List.mem_append.mp hc with hc | hc
        · exact List.mem_append_left _ (s1 c hc)
        · exact List.mem_append_right _ (s2 c hc)
    · refine ⟨vs1, vs2, SqL.of (kp.1 a1 (List.mem_append_left _ m1) _ h1), SqL.of (kp.1 a2 (List.mem_append_right _ m2) _ h2), ?_⟩
      rw [List.length_map, List.length_zip, n1, n2]
      omega
  · cases e
end

/-! ### a, b = a list -/
def gL (ts : List D → List D → Option (List D)) : Tv := fun d ρ => match d with
  | .lst l => ts l ρ
  | _ => none
def Kd.lstChild : Kd → Kd
  | .lab rt L nd => .lab none (match rt with | some n => n :: L | none => L) nd
  | k => k
theorem cell_lst {mg : Mg} {P : Fm} {g : Addr → Nat} {H : Hp} {k : Kd} {ds : List D} {v : V} (c : CellOk mg P g H k (.lst ds) (some v)) (hk : k.use = true) :
    ∃ a vs, v = .ref a ∧ H a = some (.lst vs) ∧ vs.length = ds.length ∧ ∀ (i : Nat) (d : D) (w : V), ds[i]? = some d → vs[i]? = some w → CellOk mg P g H k.lstChild d (some w) := by
  cases k with
  | dead => cases hk
  | exc _ _ => cases hk
  | ob _ _ => cases hk
  | dk _ _ _ _ => cases hk
  | pr _ _ _ => cases hk
  | ow _ _ _ => cases hk
  | flat =>
    obtain ⟨v', e, r⟩ := c
    simp only [Rep] at r
    obtain ⟨_, _, _, _, _, _, e⟩ := r
    cases e
  | lab rt L nd =>
    obtain ⟨v', fp, e, r, o, z⟩ := c
    cases e
    simp only [Rep] at r
    obtain ⟨a, vs, f, rfl, r1, r2, rfl⟩ := r
    refine ⟨a, vs, rfl, r1, r2.length, fun i d w e1 e2 => ?_⟩
    obtain ⟨w', f1, fi, f2, e3, r3, rfl⟩ := r2.get e1
    rw [e2] at e3; cases e3
    refine ⟨w, fi, rfl, r3, fun b hb => ?_, .unk fun hn => ?_⟩
    · refine .inr ⟨.inr rfl, ?_⟩
      rcases o b (List.mem_cons_of_mem _ (List.mem_append_left _ (List.mem_append_right _ hb))) with ⟨_, n, rfl, x⟩ | ⟨_, x⟩
      · exact ⟨by rw [List.mem_singleton.mp x.1]; exact List.mem_cons_self, x.2⟩
      · refine ⟨?_, x.2⟩
        cases rt with
        | none => exact x.1
        | some n => exact List.mem_cons_of_mem _ x.1
    · have n := (List.nodup_cons.mp (z.1 hn)).2
      exact (List.nodup_append.mp (List.nodup_append.mp n).1).2.1
section
variable {X : Cx} {Γ Γ' : List Kd} {pos : Pos}
theorem eg_lst {es : List Expr} {c : Nat} {k : Kd} {ts : List D → List D → Option (List D)} {S : List Nat} (hc : X.calm = true) (h : EGs X Γ es k.lstChild ts Γ' S) (hk : k.use = true := by decide)
    (hst : (assignEach es X.env).findIdx? (·.1) = none := by rfl) (hn : (assignEach es X.env).length = es.length := by rfl) : EG X Γ (.Tuple es c pos) k (gL ts) Γ' S := by
  obtain ⟨hl, u, p, kk⟩ := h
  refine ⟨_, pg_unl hc p hn hst, fun P LL g ρ σ H d v ρ' Q s cc e q => ?_⟩
  cases d with
  | lst ds =>
    obtain ⟨a, vs, rfl, r, hlen, hcells⟩ := cell_lst cc hk
    exact ⟨a, vs, rfl, SqL.of r, by rw [hlen, hl ds ρ ρ' e], kk P LL g ρ σ H ds vs ρ' Q s hcells hlen e q⟩
  | _ => cases e
end

/-! ### one object is changed -/
def Kd.has (n : Nat) : Kd → Bool
  | .lab rt L _ => L.contains n || (rt == some n)
  | .ob m Ls => m == n || Ls.any fun L => L.contains n
  | .dk _ m l L => m == n || l == n || L.contains n
  | .pr p k1 k2 => p == n || Kd.has n k1 || Kd.has n k2
  | .ow _ m L => m == n || L.contains n
  | _ => false
def killK (n : Nat) (Γ : List Kd) : List Kd := Γ.map fun k => if k.has n then .dead else k
section
variable {mg : Mg} {P : Fm} {LL : List Nat} {Γ : List Kd} {g : Addr → Nat} {ρ : List D} {σ : L2.St} {H : Hp}
theorem rep_upd {H : Hp} {a : Addr} {o o' : HO} {d : D} {v : V} {f : List Addr} (h : Rep mg H d v f) (hn : a ∉ f) (ha : H a = some o) (mu : Mut (some o)) : Rep mg (upd H a o') d v f := by
  refine h.keep (fun b hb => ?_) ⟨fun b xs r => ?_, fun b o2 vs r => ?_, fun b o2 vs r => ?_⟩
  · have : b ≠ a := fun z => hn (by rw [← z]; exact hb)
    exact ⟨fun u _ r => by unfold Rd at r ⊢; rw [upd_ne this]; exact r, fun vs r => by rw [upd_ne this]; exact r, fun _ _ _ r => by rw [upd_ne this]; exact r⟩
  · have : b ≠ a := fun z => by
      rw [z, ha] at r
      cases r
      exact mu
    rw [upd_ne this]
    exact r
  · have : b ≠ a := fun z => by
      rw [z, ha] at r
      cases r
      exact mu
    rw [upd_ne this]
    exact r
  · have : b ≠ a := fun z => by
      rw [z, ha] at r
      cases r
      exact mu
    rw [upd_ne this]
    exact r
theorem repL_upd {H : Hp} {a : Addr} {o o' : HO} {d : List D} {v : List V} {f : List Addr} (h : RepL mg H d v f) (hn : a ∉ f) (ha : H a = some o) (mu : Mut (some o)) : RepL mg (upd H a o') d v f := by
  refine h.keep (fun b hb => ?_) ⟨fun b xs r => ?_, fun b o2 vs r => ?_, fun b o2 vs r => ?_⟩
  · have : b ≠ a := fun z => hn (by rw [← z]; exact hb)
    exact ⟨fun u _ r => by unfold Rd at r ⊢; rw [upd_ne this]; exact r, fun vs r => by rw [upd_ne this]; exact r, fun _ _ _ r => by rw [upd_ne this]; exact r⟩
  · have : b ≠ a := fun z => by
      rw [z, ha] at r
      cases r
      exact mu
    rw [upd_ne this]
    exact r
  · have : b ≠ a := fun z => by
      rw [z, ha] at r
      cases r
      exact mu
    rw [upd_ne this]
    exact r
  · have : b ≠ a := fun z => by
      rw [z, ha] at r
      cases r
      exact mu
    rw [upd_ne this]
    exact r
theorem CellOk.upd {k : Kd} {d : D} {ov : Option V} {a : Addr} {o o' : HO} {n : Nat} (c : CellOk mg P g H k d ov) (ha : H a = some o) (mu : Mut (some o)) (hg : g a = n) : CellOk mg P g (upd H a o') (if k.has n then .dead else k) d ov := by
  split
  · trivial
  · rename_i hh
    induction k generalizing d ov with
    | dead => trivial
    | exc _ _ => exact c
    | pr p k1 k2 i1 i2 =>
      obtain ⟨b, d1, d2, v1, v2, e0, e1, r, q, c1, c2⟩ := c
      simp only [Kd.has, Bool.or_eq_true, beq_iff_eq, not_or] at hh
      have hba : b ≠ a := fun e => hh.1.1 (by have := List.mem_singleton.mp q.1; rw [e, hg] at this; exact this.symm)
      exact ⟨b, d1, d2, v1, v2, e0, e1, by rw [upd_ne hba]; exact r, q, i1 c1 hh.1.2, i2 c2 hh.2⟩
    | ow fl m L =>
      obtain ⟨b, f, e0, r, nd, q1, q2, q3⟩ := c
      simp only [Kd.has, Bool.or_eq_true, beq_iff_eq, not_or] at hh
      refine ⟨b, f, e0, rep_upd r (fun hm => ?_) ha mu, nd, q1, q2, q3⟩
      rcases List.mem_cons.mp hm with rfl | hm
      · exact hh.1 (by have := List.mem_singleton.mp q1.1; rw [hg] at this; exact this.symm)
      · have := (q2 a hm).1
        rw [hg] at this
        exact hh.2 (by simpa using this)
    | ob m Ls =>
      obtain ⟨b, C, dx, c, ns, vs, ds, fps, rfl, rfl, hc, hl, r, ob, rs, fs, nd⟩ := c
      have hmn : m ≠ n := fun e => hh (by simp [Kd.has, e])
      have hLn : ∀ L ∈ Ls, n ∉ L := fun L hL hn => hh (by simp only [Kd.has, Bool.or_eq_true, List.any_eq_true]; exact .inr ⟨L, hL, by simpa using hn⟩)
      have hba : b ≠ a := fun e => hmn (by have := List.mem_singleton.mp ob.1.1; rw [e, hg] at this; exact this.symm)
      refine ⟨b, C, dx, c, ns, vs, ds, fps, rfl, rfl, hc, hl, by rw [upd_ne hba]; exact r, ob, rs.monoF fun d v f hf h => rep_upd h (fun hm => ?_) ha mu, fs, nd⟩
      obtain ⟨L, hL, o⟩ := fs.mem hf hm
      exact hLn L hL (hg ▸ o.1)
    | dk fl m l L =>
      obtain ⟨x, b, F, e0, ⟨C, dx, c, f, ks, vs, ds, rfl, hc, r, rd, rl⟩, o1, o2, o3, o4⟩ := c
      have hh' : m ≠ n ∧ l ≠ n ∧ n ∉ L := by simpa [Kd.has, not_or, and_assoc] using hh
      have h1 : x ≠ a := fun e => hh'.1 (by have := List.mem_singleton.mp o1.1; rw [e, hg] at this; exact this.symm)
      have h2 : b ≠ a := fun e => hh'.2.1 (by have := List.mem_singleton.mp o2.1; rw [e, hg] at this; exact this.symm)
      have h3 : a ∉ F := fun e => hh'.2.2 (hg ▸ (o3 a e).1)
      exact ⟨x, b, F, e0, ⟨C, dx, c, f, ks, vs, ds, rfl, hc, by rw [upd_ne h1]; exact r, rd.keep fun u _ hu => by unfold Rd at hu ⊢; rw [upd_ne h2]; exact hu, repL_upd rl h3 ha mu⟩, o1, o2, o3, o4⟩
    | flat => obtain ⟨v, rfl, r⟩ := c; exact ⟨v, rfl, rep_upd r (by simp) ha mu⟩
    | lab rt L nd =>
      obtain ⟨v, fp, rfl, r, q, z⟩ := c
      refine ⟨v, fp, rfl, rep_upd r (fun hm => ?_) ha mu, q, z⟩
      apply hh
      rcases q a hm with ⟨_, m, rfl, y⟩ | ⟨_, y⟩
      · have := List.mem_singleton.mp y.1
        simp [Kd.has, ← this, hg]
      · have := y.1
        rw [hg] at this
        simp [Kd.has, this]
theorem Cells.upd {a : Addr} {o o' : HO} {n : Nat} (ha : H a = some o) (mu : Mut (some o)) (hg : g a = n) : ∀ {Γ : List Kd} {ρ : List D} {σ : L2.St}, Cells mg P g H Γ ρ σ → Cells mg P g (upd H a o') (killK n Γ) ρ σ
  | [], [], [], _ => trivial
  | _ :: _, _ :: _, _ :: _, h => ⟨h.1.upd ha mu hg, Cells.upd ha mu hg h.2⟩
  | [], _ :: _, _, h => h.elim
  | [], [], _ :: _, h => h.elim
  | _ :: _, [], _, h => h.elim
  | _ :: _, _ :: _, [], h => h.elim
theorem Cells.put {k : Kd} {d : D} {v : V} : ∀ {Γ : List Kd} {ρ : List D} {σ : L2.St} (i : Nat), Cells mg P g H Γ ρ σ → CellOk mg P g H k d (some v) → σ[i]? = some (some v) → Cells mg P g H (Γ.set i k) (ρ.set i d) σ
  | [], [], [], _, _, _, _ => trivial
  | _ :: _, _ :: _, _ :: _, 0, h, c, e => ⟨by cases (by simpa using e : _ = some v); exact c, h.2⟩
  | _ :: _, _ :: _, _ :: _, i + 1, h, c, e => ⟨h.1, Cells.put i h.2 c (by simpa using e)⟩
  | [], _ :: _, _, _, h, _, _ => h.elim
  | [], [], _ :: _, _, h, _, _ => h.elim
  | _ :: _, [], _, _, h, _, _ => h.elim
  | _ :: _, _ :: _, [], _, h, _, _ => h.elim
/-- the object at a (label n) becomes o', the slot i tells it anew -/
theorem Sta.put {a : Addr} {o o' : HO} {n i : Nat} {k : Kd} {d : D} {v : V} (s : Sta mg P LL Γ g ρ σ H) (ha : H a = some o) (mu : Mut (some o)) (mu' : Mut (some o')) (hg : g a = n) (hn : n ≠ 0) (hL : n ∉ LL) (hv : σ[i]? = some (some v)) (c : CellOk mg P g (upd H a o') k d (some v)) :
    Sta mg P LL ((killK n Γ).set i k) g (ρ.set i d) σ (upd H a o') ∧ Step LL g H g (upd H a o') := by
  have nl : ∀ b, VV.lk LL (g b) → b ≠ a := fun b h e => by
    subst e
    rw [hg] at h
    exact h.elim hn hL
  refine ⟨⟨⟨fun b hb => ?_, fun b hb => ?_, fun b hb => ?_⟩, Cells.put i (s.cells.upd ha mu hg) c hv⟩, ⟨fun b hb u e => ?_, fun b _ _ => rfl, fun b hb => ?_⟩⟩
  · by_cases e : b = a
    · subst e; exact ⟨o', upd_same, .inl mu'⟩
    · rw [upd_ne e]; exact s.loc.at_ b hb
  · by_cases e : b = a
    · subst e; rw [upd_same]; simp
    · rw [upd_ne e]; exact s.loc.out b hb
  · refine ⟨?_, (s.loc.fz b hb).2⟩
    rw [upd_ne (nl b (s.loc.fz b hb).2)]
    exact (s.loc.fz b hb).1
  · rw [upd_ne (nl b hb)]; exact e
  · by_cases e : b = a
    · subst e; rw [upd_same]; simp
    · rw [upd_ne e]; exact hb
end

/-! ### append -/
def dPush : D → D → Option D
  | .lst l, d => if l.length < 1000000 then some (.lst (l ++ [d])) else none
  | _, _ => none
/-- the list in the slot i, changed by a function of it and a value -/
def sMut (f : D → D → Option D) (i : Nat) (e : Ev) : Sv := fun ρ => do
  let y ← e ρ
  let x ← ρ[i]?
  let z ← f x y
  some (.nx (ρ.set i z))
/-- the kind of a list that has got one more -/
def Md.pushL (c : Nat) : Md → List Nat
  | .flat => []
  | .al fr r L' _ => (match r with | .new => [c] | .old n => [n] | .unk => []) ++ ((if fr then [c] else []) ++ L')
def Md.isNd : Md → Bool
  | .flat => true
  | .al _ _ _ nd => nd
def Kd.push (c : Nat) (k : Kd) (m : Md) : Kd := match k with
  | .lab rt L nd => .lab rt (L ++ m.pushL c) (nd && m.isNd && disj L m.labs)
  | k => k
/-- the nodes of a value, its new ones labelled c -/
theorem Val.pushed {mg : Mg} {P : Fm} {LL : List Nat} {g : Addr → Nat} {H H' : Hp} {m : Md} {d : D} {y : V} {c : Nat} (h : Val mg P g H H' m d y) (l : Loc P LL g H) (hc : c ≠ 0) :
    ∃ f, Rep mg H' d y f ∧ (∀ b ∈ f, Old P (relab g H H' .non c c) (m.pushL c) b) ∧ (m.isNd = true → f.Nodup) ∧ ∀ b ∈ f, New H H' b ∨ Old P g m.labs b := by
  obtain ⟨f, r, o, lb, _⟩ := h.labs
  refine ⟨f, r, fun b hb => ?_, fun hn => ?_, lb⟩
  · cases m with
    | flat =>
      obtain rfl : f = [] := o
      cases hb
    | al fr rt L nd =>
      obtain ⟨f0, r0, o0, _⟩ := h
      have nw : New H H' b → (c ∈ (Md.al fr rt L nd).pushL c) → Old P (relab g H H' .non c c) ((Md.al fr rt L nd).pushL c) b := fun n hm => by
        unfold Old
        rw [relab_new n]
        simp only [if_neg (show V.non ≠ V.ref b from fun z => nomatch z)]
        exact ⟨hm, fun z => absurd z hc⟩
      have old : ∀ {K : List Nat}, Old P g K b → (∀ k ∈ K, k ∈ (Md.al fr rt L nd).pushL c) → Old P (relab g H H' .non c c) ((Md.al fr rt L nd).pushL c) b := fun {K} y hK => by
        have y' := Old.relab (H' := H') (v := .non) (n := c) (m := c) y l
        exact ⟨hK _ y'.1, y'.2⟩
      cases rt with
      | new =>
        rcases o.1 b hb with y | y
        · exact nw y.2 (List.mem_append_left _ List.mem_cons_self)
        · exact old y fun k hk => List.mem_append_right _ (List.mem_append_right _ hk)
      | old n =>
        rcases o.1 b hb with ⟨hf, y⟩ | y
        · subst hf
          exact nw y (List.mem_append_right _ (List.mem_append_left _ List.mem_cons_self))
        · refine old y fun k hk => ?_
          rcases List.mem_cons.mp hk with e | e
          · rw [e]; exact List.mem_append_left _ List.mem_cons_self
          · exact List.mem_append_right _ (List.mem_append_right _ e)
      | unk =>
        rcases o.1 b hb with ⟨hf, y⟩ | y
        · subst hf
          exact nw y (List.mem_append_right _ (List.mem_append_left _ List.mem_cons_self))
        · exact old y fun k hk => List.mem_append_right _ (List.mem_append_right _ hk)
  · cases m with
    | flat =>
      obtain rfl : f = [] := o
      exact List.nodup_nil
    | al fr rt L nd => cases rt <;> exact o.2 hn
section
variable {X : Cx} {W : L2.WX} {sc : Sc} {Γ : List Kd} {pos : Pos}
theorem sx_append {i : Nat} {x : Str} {px ap cp : Pos} {e : Expr} {se : Ev} {m : Md} {n : Nat} {L : List Nat} {nd : Bool} (c : Nat) (hk : Γ[i]? = some (.lab (some n) L nd)) (hN : X.N[i]? = some x) (hv : Vis X.env.scope x) (he : EX X sc.LL Γ e se m)
    (hn : n ≠ 0 := by decide) (hL : n ∉ sc.LL := by decide) (hm : n ∉ m.labs := by decide) (hc : c ≠ 0 := by decide) (hdb : (x == ("__debug__" : Str)) = false := by decide) (hcd : (x == ("__classdict__" : Str)) = false := by decide)
    (hbase : attributeBase (.Name x px) "append" X.env (eval (.Name x px) X.env) = eval (.Name x px) X.env := by rfl)
    (hfew : ((backTo cp (starEach [e] X.env)).all (fun x => !x.1) && (backToKw cp (keywordEach [] X.env)).all (fun x => x.1.isSome)
      && decide ([e].length + ([] : List Keyword).length + (if ([] : List Keyword).isEmpty then 0 else 1) < 30)) = true := by rfl)
    (hline : (ap.endLine == cp.line) = true := by rfl) (hs : starEach [e] X.env = (false, eval e X.env) :: starEach [] X.env := by rfl) (hplain : (backTo cp (starEach [] X.env)).any (·.1) = false := by rfl)
    (hsw : swapsWith (.Call (.Attribute (.Name x px) "append" ap) [e] [] cp) none pos.line X.env = pure false := by rfl) :
    SX X W sc Γ (.Expr (.Call (.Attribute (.Name x px) "append" ap) [e] [] cp) pos) (sMut dPush i se) ((killK n Γ).set i (Kd.push c (.lab (some n) L nd) m)) := by
  obtain ⟨t, pt, kk⟩ := he
  refine ⟨_, ps_expr (pe_bm PySem.F.plainAttrs_list PySem.F.slot_list_append PySem.F.type_list_append mt_append (pe_var hN hv hdb hcd) (pa_cons pt pa_nil hs) hbase hfew hline hs hplain) hsw, fun P g ρ σ H o De s e w => ?_⟩
  obtain ⟨d, e1, e⟩ := bind_some e
  obtain ⟨l, e2, e⟩ := bind_some e
  obtain ⟨z, e3, e⟩ := bind_some e
  cases e
  obtain ⟨l', ov, h1, h2, h3⟩ := s.cells.get hk
  rw [e2] at h1; cases h1
  cases l with
  | lst ds =>
    unfold dPush at e3
    dsimp only at e3
    split at e3
    · rename_i hlen
      cases e3
      obtain ⟨v, fp, rfl, r, q, z⟩ := h3
      simp only [Rep] at r
      obtain ⟨a, vs, f, rfl, ha, rl, rfl⟩ := r
      have hga : g a = n := by
        rcases q a List.mem_cons_self with ⟨_, k, ek, y⟩ | ⟨y, _⟩
        · cases ek; exact List.mem_singleton.mp y.1
        · rcases y with y | y
          · exact absurd rfl y
          · cases y
      have haf : a ∉ f := z.2 rfl a f rfl rfl
      refine ⟨.ref a, h2, .inl ⟨rfl, _, .inl (.inl ha)⟩, ?_⟩
      refine kk P g ρ σ H d _ s e1 fun y H2 x2 wv => ?_
      obtain ⟨fy, ry, oy, ndy, lby⟩ := wv.pushed (c := c) s.loc hc
      have ha2 : H2 a = some (.lst vs) := x2 a _ ha
      have hay : a ∉ fy := fun hm' => by
        rcases lby a hm' with y | y
        · have := y.1; rw [ha] at this; cases this
        · have := y.1; rw [hga] at this; exact hm this
      have st2 : Sta X.vm P sc.LL Γ (relab g H H2 .non c c) ρ σ H2 := s.relab x2
      have hg2 : relab g H H2 .non c c a = n := by rw [relab_old (by rw [ha]; simp)]; exact hga
      refine ⟨a, vs, y, rfl, rfl, ha2, ?_, ?_⟩
      · rw [rl.length, sizeLine_eq]; omega
      have oldf : ∀ b ∈ f, Old P g L b := fun b hb => by
        rcases q b (List.mem_cons_of_mem _ hb) with ⟨e, _⟩ | ⟨_, y⟩
        · cases e; exact absurd hb haf
        · exact y
      have cell : CellOk X.vm P (relab g H H2 .non c c) (upd H2 a (.lst (vs ++ [y]))) (Kd.push c (.lab (some n) L nd) m) (.lst (ds ++ [d])) (some (.ref a)) := by
        refine ⟨.ref a, a :: (f ++ fy), rfl, ?_, fun b hb => ?_, fun hn' => ?_, fun _ b g' e1 e2 => ?_⟩
        · simp only [Rep]
          exact ⟨a, vs ++ [y], f ++ fy, rfl, upd_same, (repL_upd (rl.ext x2) haf ha2 trivial).append (.one (rep_upd ry hay ha2 trivial)), rfl⟩
        · rcases List.mem_cons.mp hb with rfl | hb
          · exact .inl ⟨rfl, n, rfl, by rw [hg2]; exact List.mem_singleton.mpr rfl, fun z => by rw [hg2] at z; exact absurd z hn⟩
          · rcases List.mem_append.mp hb with hb | hb
            · have y' := Old.relab (H' := H2) (v := .non) (n := c) (m := c) (oldf b hb) s.loc
              exact .inr ⟨.inl fun e => by cases e; exact haf hb, List.mem_append_left _ y'.1, y'.2⟩
            · have y' := oy b hb
              exact .inr ⟨.inl fun e => by cases e; exact hay hb, List.mem_append_right _ y'.1, y'.2⟩
        · simp only [Bool.and_eq_true] at hn'
          obtain ⟨⟨n1, n2⟩, dj⟩ := hn'
          refine List.nodup_cons.mpr ⟨fun hm => (List.mem_append.mp hm).elim haf hay, List.nodup_append.mpr ⟨(List.nodup_cons.mp (z.1 n1)).2, ndy n2, fun b hb b' hb' e => ?_⟩⟩
          subst e
          rcases lby b hb' with y | y
          · exact (oldf b hb).there s.loc y.1
          · exact disj_ok dj (oldf b hb).1 y.1
        · cases e2
          exact fun hm => (List.mem_append.mp hm).elim haf hay
      obtain ⟨s3, st3⟩ := st2.put (o' := .lst (vs ++ [y])) ha2 trivial trivial hg2 hn hL h2 cell
      exact w _ σ _ ((Step.relab x2).trans st3) s3
    · cases e3
  | _ => cases e3
end
end VV

/-! ## VBool -/
namespace VV
open PySem PySem.Spec PyProof.Rows L2
def vAnd (a b : Ev) : Ev := fun ρ => match a ρ with
  | some (.bl true) => b ρ
  | some (.bl false) => some (.bl false)
  | _ => none
def vOr (a b : Ev) : Ev := fun ρ => match a ρ with
  | some (.bl false) => b ρ
  | some (.bl true) => some (.bl true)
  | _ => none
def vNot (a : Ev) : Ev := fun ρ => match a ρ with
  | some (.bl b) => some (.bl (!b))
  | _ => none
section
variable {X : Cx} {W : L2.WX} {sc : Sc} {LL : List Nat} {Γ Γ1 Γ' : List Kd} {pos : Pos} {a b c : Expr} {sa sb s2 : Ev} {ma mb mc : Md} {rest : List Expr}
theorem ex_one {op} (ha : EX X LL Γ a sa ma) : EX X LL Γ (.BoolOp op [a] pos) sa ma := let ⟨t, p, k⟩ := ha; ⟨t, pe_one p, k⟩
theorem ex_and (ha : EX X LL Γ a sa .flat) (hb : EX X LL Γ (.BoolOp .And (b :: rest) pos) sb .flat) : EX X LL Γ (.BoolOp .And (a :: b :: rest) pos) (vAnd sa sb) .flat := by
  obtain ⟨t, p, k⟩ := ha
  obtain ⟨t', p', k'⟩ := hb
  refine ⟨_, pe_and p p', fun P g ρ σ H d Q s e q => ?_⟩
  unfold vAnd at e
  split at e
  · rename_i h
    refine k P g ρ σ H _ _ s h fun v H1 x1 w => ⟨true, rBl (show Rep X.vm H1 (.bl true) v [] from w), ?_⟩
    exact iteT (k' P g ρ σ H1 d Q (s.ext x1) e fun v2 H2 x2 w2 => q v2 H2 (x1.trans x2) w2)
  · rename_i h
    cases e
    refine k P g ρ σ H _ _ s h fun v H1 x1 w => ⟨false, rBl (show Rep X.vm H1 (.bl false) v [] from w), ?_⟩
    exact iteF (q _ H1 x1 (val_flat rep_bl))
  · cases e
theorem ex_not (ha : EX X LL Γ a sa .flat) : EX X LL Γ (.UnaryOp .Not a pos) (vNot sa) .flat := by
  obtain ⟨t, p, k⟩ := ha
  refine ⟨_, pe_not p, fun P g ρ σ H d Q s e q => ?_⟩
  unfold vNot at e
  split at e
  · rename_i b h
    cases e
    refine k P g ρ σ H _ _ s h fun v H1 x1 w => ⟨b, rBl (show Rep X.vm H1 (.bl b) v [] from w), q _ H1 x1 (val_flat rep_bl)⟩
  · cases e
/-- known less ahead of a statement -/
theorem sx_pre {st : Stmt} {s : Sv} (m : List (Nat × Nat)) (h : SX X W sc Γ1 st s Γ') (hm : mapOk sc.LL m = true) (hk : kdsLe m Γ Γ1 = true) : SX X W sc Γ st s Γ' := by
  obtain ⟨t, p, k⟩ := h
  exact ⟨t, p, fun P g ρ σ H o D st e w => k P _ ρ σ H o D (st.re hm hk) e (w.from (.re hm))⟩
end
end VV

/-! ## VLaw -/
namespace VV
open PySem PySem.Spec PyProof.Rows L2

/-- a def that may be called by its name -/
def Cal (P : Program) (w : World) (K : PySem.W.Frag) (mg : Str → Option Value) (base : Heap) (x : Str) (k : Nat) (ps : List Str) (sem : List D → Option Res) (R : Rm) : Prop :=
  ∃ f fd, FnOk P w K mg base CX0 k f fd ps (sp0 ⟨mg, K⟩ sem ps.length R) ∧ mg x = some (.ref f) ∧ PySem.W.keepIn K (.ref f) = true ∧ Binds K fd ps []
section
variable {X : Cx} {LL : List Nat} {Γ : List Kd} {pos p : Pos} {k : Nat} {ps : List Str} {sem : List D → Option Res} {R : Rm} {x : Str}
theorem ex_calls_flat {e : Expr} {es : List Expr} {a : List D → Option (List D)} {m : Md} (c : Cal X.prog X.w X.K X.mg X.base x k ps sem .flat) (hr : Room k X.A) (hg : Gl X x) (ha : EA X LL Γ (e :: es) a m) (hn : (e :: es).length = ps.length := by rfl)
    (hdb : (x == ("__debug__" : Str)) = false := by decide) (he : starEach (e :: es) X.env = (false, eval e X.env) :: starEach es X.env := by rfl) (hpl : (backTo pos (starEach es X.env)).any (·.1) = false := by rfl) :
    EX X LL Γ (.Call (.Name x p) (e :: es) [] pos) (eCall sem a) .flat := by
  obtain ⟨f, fd, F, hm, hk, hb⟩ := c
  exact ex_call F hr hg hm hk hb ha hn hdb he hpl
theorem ex_calls_fresh {e : Expr} {es : List Expr} {a : List D → Option (List D)} {m : Md} (c : Cal X.prog X.w X.K X.mg X.base x k ps sem .fresh) (hr : Room k X.A) (hg : Gl X x) (ha : EA X LL Γ (e :: es) a m) (hn : (e :: es).length = ps.length := by rfl)
    (hdb : (x == ("__debug__" : Str)) = false := by decide) (he : starEach (e :: es) X.env = (false, eval e X.env) :: starEach es X.env := by rfl) (hpl : (backTo pos (starEach es X.env)).any (·.1) = false := by rfl) :
    EX X LL Γ (.Call (.Name x p) (e :: es) [] pos) (eCall sem a) (.al true .new [] true) := by
  obtain ⟨f, fd, F, hm, hk, hb⟩ := c
  exact ex_call F hr hg hm hk hb ha hn hdb he hpl
end
end VV

/-! ## VDict -/
namespace VV
open PySem PySem.Spec PyProof.Rows L2

/-! ### keys -/
def keyD : L2.Key → D
  | .inl i => .int i
  | .inr s => .str s
def D.ky1 : D → Option L2.Key
  | .int i => some (.inl i)
  | .str s => some (.inr s)
  | _ => none
def D.kyL : List D → Option (List L2.Key)
  | [] => some []
  | d :: r => match d.ky1, D.kyL r with
    | some k, some ks => some (k :: ks)
    | _, _ => none
def D.ky (tk : Bool) (d : D) : Option Ky := match tk with
  | false => d.ky1.map Ky.k
  | true => match d with
    | .tup l => (D.kyL l).map Ky.t
    | _ => none
def Ky.d : Ky → D
  | .k x => keyD x
  | .t l => .tup (l.map keyD)
section
variable {mg : Mg} {H : Hp}
end

/-! ### tables of keys and values -/
def lkD {α : Type} (ks : List Ky) (ds : List α) (k : Ky) : Option α := ((ks.zip ds).find? fun p => decide (p.1 = k)).map (·.2)
def putKs (ks : List Ky) (k : Ky) : List Ky := if k ∈ ks then ks else ks ++ [k]
def putDs {α : Type} (ks : List Ky) (ds : List α) (k : Ky) (d : α) : List α := if k ∈ ks then (ks.zip ds).map (fun p => if p.1 = k then d else p.2) else ds ++ [d]
section
variable {mg : Mg} {H : Hp} {κ : Type} [DecidableEq κ] {em : κ → Ky}
end

/-! ### reading -/
def dGet : List D → Option D
  | [.dic tk ks ds, x] => (x.ky tk).bind (lkD ks ds)
  | _ => none
section
variable {mg : Mg} {H : Hp} {a : Addr} {tk : Bool} {ks : List Ky} {ds : List D} {vs : List V} {f : List Addr} {x d : D} {y : V} {fy : List Addr} {k : Ky}
end
section
variable {X : Cx} {LL : List Nat} {Γ : List Kd} {pos : Pos} {a b c : Expr} {sa sb s2 : Ev} {ma mb mc : Md}
end
end VV

/-! ## VDict2 -/
namespace VV
open PySem PySem.Spec PyProof.Rows L2

/-! ### one of two -/

/-! ### get, in -/
def dGet2 : List D → Option D
  | [.dic tk ks ds, x, z] => (x.ky tk).map fun k => (lkD ks ds k).getD z
  | _ => none
def dIn : List D → Option D
  | [x, .dic tk ks ds] => (x.ky tk).map fun k => .bl (lkD ks ds k).isSome
  | _ => none
section
variable {X : Cx} {LL : List Nat} {Γ : List Kd} {pos apos cpos : Pos} {a b c : Expr} {sa sb s2 : Ev} {ma mb mc : Md}
end
end VV

/-! ## VDict3 -/
namespace VV
open PySem PySem.Spec PyProof.Rows L2

/-! ### what stands after a store, a removal -/
section
variable {mg : Mg} {H : Hp}
end

/-! ### d[k] = v -/
/-- the thing in the slot i gets v at x -/
def sPut (f : D → D → D → Option D) (i : Nat) (ex ev : Ev) : Sv := fun ρ => do
  let v ← ev ρ
  let x ← ex ρ
  let d ← ρ[i]?
  let z ← f d x v
  some (.nx (ρ.set i z))
theorem root_lab {P : Fm} {g : Addr → Nat} {n : Nat} {L : List Nat} {a : Addr} {f : List Addr} (q : ∀ b ∈ a :: f, (V.ref a = .ref b ∧ ∃ k, some n = some k ∧ Old P g [k] b) ∨ ((V.ref a ≠ .ref b ∨ some n = none) ∧ Old P g L b)) : g a = n := by
  rcases q a List.mem_cons_self with ⟨_, k, ek, y⟩ | ⟨y, _⟩
  · cases ek; exact List.mem_singleton.mp y.1
  · rcases y with y | y
    · exact absurd rfl y
    · cases y
section
variable {X : Cx} {W : L2.WX} {sc : Sc} {Γ : List Kd} {pos : Pos}
end

/-! ### d.pop(k), a statement -/
section
variable {X : Cx} {W : L2.WX} {sc : Sc} {Γ : List Kd} {pos : Pos}
end
end VV

/-! ## VDict4 -/
namespace VV
open PySem PySem.Spec PyProof.Rows L2

/-! ### a dict is locked while its keys are walked -/
section
variable {mg : Mg} {P : Fm} {LL : List Nat} {g : Addr → Nat} {H : Hp} {a : Addr} {u : HO} {od : Obj}
end
section
variable {X : Cx} {W : L2.WX} {sc : Sc} {Γ Γ1 : List Kd} {pos : Pos}
end
end VV

/-! ## VDict5 -/
namespace VV
open PySem PySem.Spec PyProof.Rows L2

/-! ### {}, dict(d), list(d) -/
def dDicC : List D → Option D
  | [.dic false ks ds] => some (.dic false ks ds)
  | _ => none
def dKeysL : List D → Option D
  | [.dic false ks _] => some (.lst (ks.map Ky.d))
  | _ => none
section
variable {X : Cx} {LL : List Nat} {Γ : List Kd} {pos : Pos}
end
end VV

/-! ## VEqX -/
namespace PySem.SeqAt
open AutoSeq1 (wpAny_loadPart')
open MeetsSeq MeetsSeq2 MeetsSeq3 SeqRoads2
/-! ### != of lists whose items are told equal in one model -/
section
variable {prog : Program} {w : World} {l b : Addr} {xs ys : Array Value} {n m : Nat} {dd de : Option Addr} {sl sm : Array (Option Value)}
end
end PySem.SeqAt

/-! ## VEqY -/
namespace PySem.W
section
variable {prog : Program} {w : World} {K : Type} [DecidableEq K] {knd : PySem.KeyKind prog w K} {A : Around} {E : Value → Shared → Prop} {s : Shared}
end
end PySem.W
namespace VV
open PySem PySem.Spec PyProof.Rows L2

/-! ### equal things, dicts among them -/
section
variable {X : Cx} {pins : List (Addr × Obj)} {σ : L2.St} {H : Hp} {s : Shared}
end
section
variable {X : Cx}
end

/-! ### as trees -/
def D.sameR (f : D → D → Bool) : D → D → Bool
  | .lst l, .lst r => l.length == r.length && (l.zip r).all fun p => f p.1 p.2
  | .dic false ks l, .dic false ks' l' => ks.length == ks'.length && (ks.zip l).all fun p => match lkD ks' l' p.1 with
    | some d => f p.2 d
    | none => false
  | _, _ => false
def D.same : Nat → D → D → Bool
  | 0, _, _ => false
  | n + 1, a, b => (a.toP.canLay0 && b.toP.canLay0 && decide (a.toP.depth ≤ n) && a.eqv b) || D.sameR (D.same n) a b
section
variable {mg : Mg} {H : Hp}
end
section
variable {X : Cx} {LL : List Nat} {Γ : List Kd} {pos : Pos} {a b : Expr} {sa sb : Ev} {ma mb : Md}
end
end VV

/-! ## VNeY -/
namespace VV
open PySem PySem.Spec PyProof.Rows L2
section
variable {prog : Program} {w : World} {K : Type} [DecidableEq K] {knd : KeyKind prog w K} {A : Around} {s : Shared}
open PyProof.V PySem.Calls in
end
section
variable {X : Cx} {pins : List (Addr × Obj)} {σ : L2.St} {H : Hp} {s : Shared}
end
section
variable {X : Cx}
end
section
variable {X : Cx} {LL : List Nat} {Γ : List Kd} {pos : Pos} {a b : Expr} {sa sb : Ev} {ma mb : Md}
end
end VV

/-! ## VIsi -/
namespace VV
open PySem PySem.Spec PyProof.Rows L2

/-! ### isinstance(x, T), T a built-in type -/
def D.tyN : D → Option String
  | .non => some "NoneType"
  | .bl _ => some "bool"
  | .int _ => some "int"
  | .str _ => some "str"
  | .tup _ => some "tuple"
  | .kti _ => some "tuple"
  | .lst _ => some "list"
  | .scr _ => some "list"
  | .dic false _ _ => some "dict"
  | _ => none
theorem rep_ty {mg : Mg} {H : Hp} {d : D} {v : V} {fp : List Addr} {n : String} (r : Rep mg H d v fp) (h : d.tyN = some n) : TyX mg.K H v (.type n) := by
  cases d with
  | non => cases h; rw [rNon r]; exact .base .non
  | bl b => cases h; rw [rBl r]; exact .base (.bl b)
  | int i => cases h; rw [rInt r]; exact .base (.int i)
  | str s => cases h; rw [rStr r]; exact .base (.str s)
  | kti l =>
    cases h
    simp only [Rep] at r
    obtain ⟨⟨a, o, rfl, e, _⟩, _⟩ := r
    exact .fTuple e
  | dix ks ds => cases h
  | tup l =>
    cases h
    simp only [Rep] at r
    obtain ⟨a, vs, rfl, e, _⟩ := r
    exact .base (.tup e)
  | lst l =>
    cases h
    simp only [Rep] at r
    obtain ⟨a, vs, f, rfl, e, _⟩ := r
    exact .base (.lst e)
  | scr l =>
    cases h
    simp only [Rep] at r
    obtain ⟨a, vs, rfl, e, _⟩ := r
    rcases e with ⟨o, e⟩ | ⟨o, its, n, e, c, _⟩
    · exact .base (.frz e)
    · exact .kList e c
  | dic tk ks l =>
    cases tk with
    | false =>
      cases h
      simp only [Rep] at r
      obtain ⟨a, vs, f, rfl, ⟨_, kl, _, e | ⟨o, e⟩⟩, _⟩ := r
      · exact .base (.dK e)
      · exact .fDict e
    | true => cases h
  | obj c ns fs => cases h
  | ktx l => cases h
  | clo x l => cases h
  | fn x => cases h
def dIsi (T : String) : List D → Option D
  | [d] => d.tyN.bind fun n => (kitB n T).map .bl
  | _ => none
section
variable {X : Cx} {LL : List Nat} {Γ : List Kd} {pos p q : Pos} {e : Expr} {se : Ev} {m : Md}
theorem ex_isi {T : Str} {Ts : String} (hg : Gl X "isinstance") (hm : X.mg "isinstance" = none) (hv : bootBuiltins "isinstance" = some (.builtin "isinstance")) (gT : Gl X T) (mT : X.mg T = none) (vT : bootBuiltins T = some (.type Ts)) (he : EX X LL Γ e se m)
    (hn : T ≠ "__name__" := by decide) (hd : (T == ("__debug__" : Str)) = false := by decide)
    (hs : starEach [e, .Name T q] X.env = (false, eval e X.env) :: starEach [.Name T q] X.env := by rfl) (hs2 : starEach [.Name T q] X.env = (false, eval (.Name T q) X.env) :: starEach [] X.env := by rfl)
    (hpl : (backTo pos (starEach [.Name T q] X.env)).any (·.1) = false := by rfl) :
    EX X LL Γ (.Call (.Name "isinstance" p) [e, .Name T q] [] pos) (eP (dIsi Ts) (aCons se aNil)) .flat := by
  obtain ⟨t, pt, k⟩ := he
  have pT : PE X (.Name T q) (tC (.ty Ts)) := pe_bltn gT mT vT rfl hn hd
  refine ⟨_, pe_callB call_isi hg hm hv (pa_cons pt (pa_cons pT pa_nil hs2) hs) (by decide) (by decide) hs hpl, fun P g ρ σ H d Q s e0 q => ?_⟩
  obtain ⟨ds, e1, e0⟩ := bind_some e0
  obtain ⟨d1, ea, e1⟩ := bind_some e1
  obtain ⟨r1, er, e1⟩ := bind_some e1
  cases er; cases e1
  unfold dIsi at e0
  obtain ⟨n, hn', e0⟩ := bind_some e0
  simp only [Option.map_eq_some_iff] at e0
  obtain ⟨b, hb, rfl⟩ := e0
  refine k P g ρ σ H d1 _ s ea fun v H1 x1 w => ?_
  obtain ⟨fp, r, _⟩ := w.labs
  exact ⟨v, .ty Ts, .type n, .type Ts, b, rfl, .ty Ts, rep_ty r hn', kit_ty hb, q _ H1 x1 (val_flat rep_bl)⟩
end
end VV

/-! ## VPut -/
namespace VV
open PySem PySem.Spec PyProof.Rows L2

/-! ### x[j] = v, x a list in a slot -/
theorem repL_set {mg : Mg} {H : Hp} {d : D} {y : V} {fy : List Addr} (ry : Rep mg H d y fy) : ∀ {ds : List D} {vs : List V} {f : List Addr} {j : Nat}, RepL mg H ds vs f → j < ds.length →
    ∃ f', RepL mg H (ds.set j d) (vs.set j y) f' ∧ (∀ b ∈ f', b ∈ f ∨ b ∈ fy) ∧ (f.Nodup → fy.Nodup → (∀ b ∈ f, b ∉ fy) → f'.Nodup)
  | [], _, _, _, _, h => by simp at h
  | d0 :: ds, _, _, 0, h, _ => by
    simp only [RepL] at h
    obtain ⟨v, r, f1, f2, rfl, h1, h2, rfl⟩ := h
    refine ⟨fy ++ f2, ?_, fun b hb => (List.mem_append.mp hb).elim .inr fun z => .inl (List.mem_append_right _ z), fun n1 n2 dj => List.nodup_append.mpr ⟨n2, (List.nodup_append.mp n1).2.1, fun a ha b hb e => dj b (List.mem_append_right _ hb) (e ▸ ha)⟩⟩
    simp only [List.set_cons_zero, RepL]
    exact ⟨y, r, fy, f2, rfl, ry, h2, rfl⟩
  | d0 :: ds, _, _, j + 1, h, hj => by
    simp only [RepL] at h
    obtain ⟨v, r, f1, f2, rfl, h1, h2, rfl⟩ := h
    obtain ⟨f', g1, g2, g3⟩ := repL_set ry h2 (j := j) (by simpa using hj)
    refine ⟨f1 ++ f', ?_, fun b hb => ?_, fun n1 n2 dj => ?_⟩
    · simp only [List.set_cons_succ, RepL]
      exact ⟨v, _, f1, f', rfl, h1, g1, rfl⟩
    · rcases List.mem_append.mp hb with z | z
      · exact .inl (List.mem_append_left _ z)
      · exact (g2 b z).imp (fun q => List.mem_append_right _ q) id
    · obtain ⟨a1, a2, a3⟩ := List.nodup_append.mp n1
      refine List.nodup_append.mpr ⟨a1, g3 a2 n2 fun b hb => dj b (List.mem_append_right _ hb), fun a ha b hb e => ?_⟩
      rcases g2 b hb with q | q
      · exact a3 a ha b q e
      · exact dj a (List.mem_append_left _ ha) (e ▸ q)
def lPut : D → D → D → Option D
  | .lst l, .int k, v => (ixN l.length k).map fun j => .lst (l.set j v)
  | _, _, _ => none
section
variable {X : Cx} {W : L2.WX} {sc : Sc} {Γ : List Kd} {pos : Pos}
theorem sx_lput {i : Nat} {x : Str} {px pos' : Pos} {e j : Expr} {se sj : Ev} {m mj : Md} {n : Nat} {L : List Nat} {nd : Bool} (c : Nat) (hk : Γ[i]? = some (.lab (some n) L nd)) (hN : X.N[i]? = some x) (hv : Vis X.env.scope x)
    (he : EX X sc.LL Γ e se m) (hj : EX X sc.LL Γ j sj mj)
    (hn : n ≠ 0 := by decide) (hL : n ∉ sc.LL := by decide) (hm : n ∉ m.labs := by decide) (hc : c ≠ 0 := by decide) (hdb : (x == ("__debug__" : Str)) = false := by decide) (hcd : (x == ("__classdict__" : Str)) = false := by decide)
    (ha : ∀ v, assign (.Subscript (.Name x px) j pos') X.env v = (do
      let ov ← holding [v] (eval (.Name x px) X.env)
      let iv ← holding [v, ov] (eval j X.env)
      standAt pos'
      holding [v, ov, iv] (setItem ov iv v)
      release [v, ov, iv] []) := by intro _; rfl)
    (hs : swapsWithSole [.Subscript (.Name x px) j pos'] e pos.line X.env = pure false := by rfl) (hw : swappedStores [.Subscript (.Name x px) j pos'] e X.env = pure none := by rfl)
    (h1 : (assignEach [.Subscript (.Name x px) j pos'] X.env).map (·.2) = [assign (.Subscript (.Name x px) j pos') X.env] := by rfl) :
    SX X W sc Γ (.Assign [.Subscript (.Name x px) j pos'] e pos) (sPut lPut i sj se) ((killK n Γ).set i (Kd.push c (.lab (some n) L nd) m)) := by
  obtain ⟨t, pt, kk⟩ := he
  obtain ⟨tj, pj, kj⟩ := hj
  refine ⟨_, ps_asg pt (pg_sub (pe_var hN hv hdb hcd) pj set_list ha) hs hw h1, fun P g ρ σ H o De s e w => ?_⟩
  obtain ⟨d, e1, e⟩ := bind_some e
  obtain ⟨xk, e2, e⟩ := bind_some e
  obtain ⟨dd, e3, e⟩ := bind_some e
  obtain ⟨z, e4, e⟩ := bind_some e
  cases e
  obtain ⟨l', ov, h1, h2, h3⟩ := s.cells.get hk
  rw [e3] at h1; cases h1
  unfold lPut at e4
  split at e4
  · rename_i l k eq0
    simp only [Option.map_eq_some_iff] at e4
    obtain ⟨jj, ej, rfl⟩ := e4
    obtain ⟨v, fp, rfl, r, q, z⟩ := h3
    simp only [Rep] at r
    obtain ⟨a, vs, f, rfl, ho0, rl, rfl⟩ := r
    have hga : g a = n := root_lab q
    have haf : a ∉ f := z.2 rfl a f rfl rfl
    refine kk P g ρ σ H _ _ s e1 fun y H2 x2 wv => ?_
    refine ⟨.ref a, h2, ?_⟩
    refine kj P g ρ σ H2 _ _ (s.ext x2) e2 fun yk H3 x3 wk => ?_
    obtain ⟨fk, rk, _⟩ := wk.labs
    obtain rfl := rInt rk
    have x23 := x2.trans x3
    have ho3 : H3 a = some (.lst vs) := x23 a _ ho0
    obtain ⟨fy, ry, oy, ndy, lby⟩ := (wv.ext x3).pushed (c := c) s.loc hc
    have hay : a ∉ fy := fun hm' => by
      rcases lby a hm' with y | y
      · have := y.1; rw [ho0] at this; cases this
      · have := y.1; rw [hga] at this; exact hm this
    have st2 : Sta X.vm P sc.LL Γ (relab g H H3 .non c c) ρ σ H3 := s.relab x23
    have hg2 : relab g H H3 .non c c a = n := by rw [relab_old (by rw [ho0]; simp)]; exact hga
    have rl3 := rl.ext x23
    have hjl : jj < l.length := by
      unfold ixN at ej
      split at ej
      · split at ej <;> cases ej <;> omega
      · split at ej <;> cases ej <;> omega
    refine ⟨a, vs, k, jj, rfl, rfl, ho3, by rw [rl.length]; exact ej, ?_⟩
    obtain ⟨f', g1, g2, g3⟩ := repL_set ry rl3 hjl
    have haf' : a ∉ f' := fun hm => (g2 a hm).elim haf hay
    have oldf : ∀ b ∈ f, Old P g L b := fun b hb => by
      rcases q b (List.mem_cons_of_mem _ hb) with ⟨e, _⟩ | ⟨_, y⟩
      · cases e; exact absurd hb haf
      · exact y
    have cell : CellOk X.vm P (relab g H H3 .non c c) (upd H3 a (.lst (vs.set jj y))) (Kd.push c (.lab (some n) L nd) m) (.lst (l.set jj d)) (some (.ref a)) := by
      refine ⟨.ref a, a :: f', rfl, ?_, fun b hb => ?_, fun hn' => ?_, fun _ b g' e1 e2 => ?_⟩
      · simp only [Rep]
        exact ⟨a, _, f', rfl, upd_same, repL_upd g1 haf' ho3 trivial, rfl⟩
      · rcases List.mem_cons.mp hb with rfl | hb
        · exact .inl ⟨rfl, n, rfl, by rw [hg2]; exact List.mem_singleton.mpr rfl, fun z => by rw [hg2] at z; exact absurd z hn⟩
        · rcases g2 b hb with hb' | hb'
          · have y' := Old.relab (H' := H3) (v := .non) (n := c) (m := c) (oldf b hb') s.loc
            exact .inr ⟨.inl fun e => by cases e; exact haf hb', List.mem_append_left _ y'.1, y'.2⟩
          · have y' := oy b hb'
            exact .inr ⟨.inl fun e => by cases e; exact hay hb', List.mem_append_right _ y'.1, y'.2⟩
      · simp only [Bool.and_eq_true] at hn'
        obtain ⟨⟨n1, n2⟩, dj⟩ := hn'
        refine List.nodup_cons.mpr ⟨haf', g3 (List.nodup_cons.mp (z.1 n1)).2 (ndy n2) fun b hb hb' => ?_⟩
        rcases lby b hb' with y | y
        · exact (oldf b hb).there s.loc y.1
        · exact disj_ok dj (oldf b hb).1 y.1
      · cases e2
        exact haf'
    obtain ⟨s3, st3⟩ := st2.put (o' := .lst (vs.set jj y)) ho3 trivial trivial hg2 hn hL h2 cell
    exact w _ σ _ ((Step.relab x23).trans st3) s3
  · cases e4
end
end VV

/-! ## VDisp -/
namespace VV
open PySem PySem.Spec PyProof.Rows L2

/-! ### {k: v, ..}, keys ints and texts, values flat -/
def dDispA : List Ky → List D → List D → Option D
  | ks, vs, [] => some (.dic false ks vs)
  | ks, vs, k :: d :: r => match k.ky false with
    | some kk => dDispA (putKs ks kk) (putDs ks vs kk d) r
    | none => none
  | _, _, _ => none
def eDisp (a : List D → Option (List D)) : Ev := fun ρ => do dDispA [] [] (← a ρ)
section
variable {X : Cx} {LL : List Nat} {Γ : List Kd} {pos : Pos} {k v : Expr} {ks : List (Option Expr)} {vs : List Expr} {sk sv : Ev} {sr : List D → Option (List D)}
end
end VV

/-! ## VSimp -/
namespace VV
open PySem PySem.Spec PyProof.Rows L2
/-- keeps a lemma from being used without a trace -/
theorem of_rfl {α : Sort u} {a b : α} (h : a = b) : a = b := h

def _root_.Option.ob {α : Type u} {β : Type v} (o : Option α) (f : α → Option β) : Option β := o.bind f
@[simp] theorem ob_some {α : Type u} {β : Type v} {x : α} {f : α → Option β} : (some x).ob f = f x := of_rfl rfl
@[simp] theorem ob_none {α : Type u} {β : Type v} {f : α → Option β} : (none : Option α).ob f = none := of_rfl rfl
/-! ### the functions of trees, evaluated -/
def asB : D → Option Bool
  | .bl b => some b
  | _ => none
def asRet : Option Res → Option D
  | some (.ret d) => some d
  | _ => none
def asL : D → Option (List D)
  | .lst l => some l
  | .scr l => some l
  | _ => none
def asT : D → Option (List D)
  | .tup l => some l
  | _ => none
def outR : Option Out → Option Res
  | some (.nx _) => some (.ret .non)
  | some (.rt d) => some (.ret d)
  | some (.ex c _) => some (.exn c)
  | _ => none
def seqO (o : Option Out) (b : Sv) : Option Out := match o with
  | some (.nx ρ) => b ρ
  | o => o
section
variable {i n : Nat} {ρ : List D} {d : D} {e e1 e2 : Ev} {a r : List D → Option (List D)} {f : List D → Option D} {g : List D → Option Res} {p : D → Bool} {s1 s2 : Sv} {c c2 : List D → Option Bool} {t : Tv} {pk : List Kd} {ds : List D}
@[simp] theorem eVar_s : eVar i ρ = ρ[i]? := of_rfl rfl
@[simp] theorem eC_s : eC d ρ = some d := of_rfl rfl
@[simp] theorem aNil_s : aNil ρ = some [] := of_rfl rfl
@[simp] theorem aCons_s : aCons e a ρ = (e ρ).ob fun d => (a ρ).ob fun ds => some (d :: ds) := of_rfl rfl
@[simp] theorem eP_s : eP f a ρ = (a ρ).ob f := of_rfl rfl
@[simp] theorem eTup_s : eTup a ρ = (a ρ).ob fun ds => some (.tup ds) := of_rfl rfl
@[simp] theorem eLst_s : eLst a ρ = (a ρ).ob fun ds => some (.lst ds) := of_rfl rfl
@[simp] theorem eChk_s : eChk p e ρ = (e ρ).filter p := of_rfl rfl
@[simp] theorem tOf_s : tOf e ρ = (e ρ).ob asB := by
  unfold tOf
  cases e ρ with
  | none => rfl
  | some d => cases d <;> rfl
@[simp] theorem asB_s {b : Bool} : asB (.bl b) = some b := of_rfl rfl
@[simp] theorem eCall_s : eCall g a ρ = (a ρ).ob fun ds => asRet (g ds) := by
  unfold eCall
  cases a ρ with
  | none => rfl
  | some ds =>
    show (match g ds with | some (.ret d) => some d | _ => none) = asRet (g ds)
    cases g ds with
    | none => rfl
    | some r => cases r <;> rfl
@[simp] theorem asRet_s : asRet (some (.ret d)) = some d := of_rfl rfl
@[simp] theorem sNil_s : sNil ρ = some (.nx ρ) := of_rfl rfl
@[simp] theorem sPass_s : sPass ρ = some (.nx ρ) := of_rfl rfl
@[simp] theorem sCont_s : sCont ρ = some (.ct ρ) := of_rfl rfl
@[simp] theorem sRetN_s : sRetN ρ = some (.rt .non) := of_rfl rfl
@[simp] theorem sSeq_s : sSeq s1 s2 ρ = seqO (s1 ρ) s2 := by
  unfold sSeq seqO
  cases s1 ρ with
  | none => rfl
  | some o => cases o <;> rfl
@[simp] theorem seqO_nx : seqO (some (.nx ρ)) s2 = s2 ρ := of_rfl rfl
@[simp] theorem seqO_rt : seqO (some (.rt d)) s2 = some (.rt d) := of_rfl rfl
@[simp] theorem seqO_ct : seqO (some (.ct ρ)) s2 = some (.ct ρ) := of_rfl rfl
@[simp] theorem sRet_s : sRet e ρ = (e ρ).ob fun d => some (.rt d) := of_rfl rfl
@[simp] theorem sSet_s : sSet i e ρ = (e ρ).ob fun d => some (.nx (ρ.set i d)) := of_rfl rfl
@[simp] theorem sAsg_s : sAsg t e ρ = (e ρ).ob fun d => (t d ρ).ob fun ρ' => some (.nx ρ') := of_rfl rfl
theorem sIf_s : sIf c s1 s2 ρ = (c ρ).ob fun b => if b then s1 ρ else s2 ρ := rfl
@[simp] theorem sIf_t (h : c ρ = some true) : sIf c s1 s2 ρ = s1 ρ := by rw [sIf_s, h]; rfl
@[simp] theorem sIf_f (h : c ρ = some false) : sIf c s1 s2 ρ = s2 ρ := by rw [sIf_s, h]; rfl
@[simp] theorem wAnd_s : wAnd c c2 ρ = (c ρ).ob fun b => if b then c2 ρ else some false := of_rfl rfl
@[simp] theorem wOr_s : wOr c c2 ρ = (c ρ).ob fun b => if b then some true else c2 ρ := of_rfl rfl
@[simp] theorem wNot_s : wNot c ρ = (c ρ).ob fun b => some (!b) := of_rfl rfl
@[simp] theorem vNot_s : vNot e ρ = (e ρ).ob fun d => (asB d).ob fun b => some (.bl (!b)) := by
  unfold vNot
  cases e ρ with
  | none => rfl
  | some d => cases d <;> rfl
@[simp] theorem vAnd_s : vAnd e1 e2 ρ = (e1 ρ).ob fun d => (asB d).ob fun b => if b then e2 ρ else some (.bl false) := by
  unfold vAnd
  cases e1 ρ with
  | none => rfl
  | some d =>
    cases d with
    | bl b => cases b <;> rfl
    | _ => rfl
@[simp] theorem vOr_s : vOr e1 e2 ρ = (e1 ρ).ob fun d => (asB d).ob fun b => if b then some (.bl true) else e2 ρ := by
  unfold vOr
  cases e1 ρ with
  | none => rfl
  | some d =>
    cases d with
    | bl b => cases b <;> rfl
    | _ => rfl
@[simp] theorem cYes_s : cYes ρ = some true := of_rfl rfl
@[simp] theorem gN_s : gN i d ρ = some (ρ.set i d) := of_rfl rfl
@[simp] theorem gF_s : gF t d ρ = if d.isFlat then t d ρ else none := of_rfl rfl
@[simp] theorem gT_s {l : List D} {ts : List D → List D → Option (List D)} : gT ts (.tup l) ρ = ts l ρ := of_rfl rfl
@[simp] theorem gL_s {l : List D} {ts : List D → List D → Option (List D)} : gL ts (.lst l) ρ = ts l ρ := of_rfl rfl
@[simp] theorem gsNil_s : gsNil [] ρ = some ρ := of_rfl rfl
@[simp] theorem gsCons_s {l : List D} {ts : List D → List D → Option (List D)} : gsCons t ts (d :: l) ρ = (t d ρ).ob fun ρ' => ts l ρ' := of_rfl rfl
@[simp] theorem fl_non : D.non.isFlat = true := of_rfl rfl
@[simp] theorem fl_int {k : Int} : (D.int k).isFlat = true := of_rfl rfl
@[simp] theorem fl_bl {k : Bool} : (D.bl k).isFlat = true := of_rfl rfl
@[simp] theorem fl_str {k : Str} : (D.str k).isFlat = true := of_rfl rfl
@[simp] theorem fl_scr {k : List D} : (D.scr k).isFlat = true := of_rfl rfl
@[simp] theorem fl_fn {k : Str} : (D.fn k).isFlat = true := of_rfl rfl
@[simp] theorem fl_tup {k : List D} : (D.tup k).isFlat = D.isFlatL k := by simp only [D.isFlat]
@[simp] theorem fl_lst {k : List D} : (D.lst k).isFlat = false := by simp only [D.isFlat]
@[simp] theorem flL_nil : D.isFlatL [] = true := by simp only [D.isFlatL]
@[simp] theorem flL_cons {k : List D} : D.isFlatL (d :: k) = (d.isFlat && D.isFlatL k) := by simp only [D.isFlatL]
@[simp] theorem flL_ints {k : List Int} : D.isFlatL (k.map D.int) = true := by
  induction k with
  | nil => rfl
  | cons a r ih => simp only [List.map_cons, flL_cons, fl_int, ih, Bool.and_self]
@[simp] theorem kf_lst {k : List D} : (D.lst k).kidsFlat = D.isFlatL k := of_rfl rfl
theorem fn_s (h : pkOk pk ds = true) : fnSem n pk s1 ds = outR (s1 (ds ++ List.replicate (n - ds.length) .non)) := by
  unfold fnSem
  refine (if_pos h).trans ?_
  unfold outR
  cases s1 (ds ++ List.replicate (n - ds.length) .non) with
  | none => rfl
  | some o => cases o <;> rfl
@[simp] theorem outR_rt : outR (some (.rt d)) = some (.ret d) := of_rfl rfl
@[simp] theorem outR_nx : outR (some (.nx ρ)) = some (.ret .non) := of_rfl rfl
@[simp] theorem pk_nil : pkOk [] [] = true := of_rfl rfl
@[simp] theorem pk_flat {k : List D} : pkOk (.flat :: pk) (d :: k) = (d.isFlat && pkOk pk k) := of_rfl rfl
@[simp] theorem pk_lab {k : List D} : pkOk (.lab none [0] false :: pk) (d :: k) = pkOk pk k := of_rfl rfl

@[simp] theorem dI2_s {h : Int → Int → Int} {x y : Int} : dI2 h [.int x, .int y] = some (.int (h x y)) := of_rfl rfl
@[simp] theorem dB2_s {h : Int → Int → Bool} {x y : Int} : dB2 h [.int x, .int y] = some (.bl (h x y)) := of_rfl rfl
@[simp] theorem dI1_s {h : Int → Int} {x : Int} : dI1 h [.int x] = some (.int (h x)) := of_rfl rfl
theorem dMul_s {x y : Int} (h : CMulX x y) : dMul [.int x, .int y] = some (.int (x * y)) := if_pos h
theorem dDiv_s {x y : Int} (h : CDivW x y) : dDiv [.int x, .int y] = some (.int (x / y)) := if_pos h
@[simp] theorem dMod_s {x y : Int} (h : 0 < y) : dMod [.int x, .int y] = some (.int (x % y)) := if_pos h
theorem dPow_s {x y : Int} (h : CPow x y) : dPow [.int x, .int y] = some (.int (x ^ y.toNat)) := if_pos h
theorem pow_e {a b c : Int} (h : CPow a b) (e : a ^ b.toNat = c) : eP dPow (aCons (eC (.int a)) (aCons (eC (.int b)) aNil)) = eC (.int c) := by
  funext ρ
  rw [← e]
  exact dPow_s h
@[simp] theorem dLen_l {l : List D} : dLen [.lst l] = some (.int l.length) := of_rfl rfl
@[simp] theorem dLen_c {l : List D} : dLen [.scr l] = some (.int l.length) := of_rfl rfl
@[simp] theorem dLen_t {l : List D} : dLen [.tup l] = some (.int l.length) := of_rfl rfl
@[simp] theorem dIdx_l {l : List D} {k : Int} : dIdx [.lst l, .int k] = atI l k := of_rfl rfl
@[simp] theorem dIdx_c {l : List D} {k : Int} : dIdx [.scr l, .int k] = atI l k := of_rfl rfl
@[simp] theorem dIdx_t {l : List D} {k : Int} : dIdx [.tup l, .int k] = atI l k := of_rfl rfl
theorem atI_n {α : Type} {l : List α} {k : Nat} : atI l (k : Int) = l[k]? := by
  unfold atI ixN
  rw [if_pos (by omega)]
  by_cases h : k < l.length
  · rw [if_pos (by omega)]; simp
  · rw [if_neg (by omega)]; simp; omega
theorem atI_of {α : Type} {l : List α} {z : Int} {k : Nat} (h : z = k) : atI l z = l[k]? := by rw [h]; exact atI_n
@[simp] theorem atI_0 {α : Type} {l : List α} : atI l 0 = l[0]? := atI_of (k := 0) rfl
@[simp] theorem atI_lit {α : Type} {l : List α} {n : Nat} : atI l (no_index (OfNat.ofNat n : Int)) = l[(OfNat.ofNat n : Nat)]? := atI_of (k := n) rfl
@[simp] theorem atI_1 {α : Type} {l : List α} : atI l 1 = l[1]? := atI_of (k := 1) rfl
@[simp] theorem dInt_i {k : Int} : dIntC [.int k] = some (.int k) := of_rfl rfl
@[simp] theorem dInt_b {k : Bool} : dIntC [.bl k] = some (.int (if k then 1 else 0)) := of_rfl rfl
@[simp] theorem eLc_s {it : List D → Option (List D)} : eLc it t c e ρ = (it ρ).ob fun xs => (lcL t c e ρ xs).ob fun ys => some (.lst ys) := of_rfl rfl
@[simp] theorem iLst_s : iLst e ρ = (e ρ).ob asL := by
  unfold iLst
  cases e ρ with
  | none => rfl
  | some d => cases d <;> rfl
@[simp] theorem iTupl_s : iTupl e ρ = (e ρ).ob asT := by
  unfold iTupl
  cases e ρ with
  | none => rfl
  | some d => cases d <;> rfl
@[simp] theorem asL_l {l : List D} : asL (.lst l) = some l := of_rfl rfl
@[simp] theorem asL_c {l : List D} : asL (.scr l) = some l := of_rfl rfl
@[simp] theorem asT_t {l : List D} : asT (.tup l) = some l := of_rfl rfl
@[simp] theorem sFor_s {it : List D → Option (List D)} {b : Sv} : sFor it t b ρ = (it ρ).ob fun xs => forL t b xs ρ := of_rfl rfl
@[simp] theorem sMut_s {h : D → D → Option D} : sMut h i e ρ = (e ρ).ob fun y => (ρ[i]?).ob fun x => (h x y).ob fun z => some (.nx (ρ.set i z)) := of_rfl rfl
theorem dPush_s {l : List D} (h : l.length < 1000000) : dPush (.lst l) d = some (.lst (l ++ [d])) := if_pos h
theorem iRng1_s {k : Int} (h : a ρ = some [.int k]) (h1 : k ≤ 10000000) (h2 : -10000000 ≤ k) : iRng a ρ = some (rngD 0 k.toNat) := by
  unfold iRng
  rw [h]
  exact if_pos ⟨h1, h2⟩
theorem rng0 {k : Nat} : rngD 0 k = (List.range k).map fun i : Nat => D.int i := by
  unfold rngD
  apply List.map_congr_left
  intro i _
  simp
theorem iZip_s {l r : List D} (h : a ρ = some [.lst l, .lst r]) : iZipL a ρ = some ((l.zip r).map fun p => .tup [p.1, p.2]) := by
  unfold iZipL
  rw [h]
  rfl
@[simp] theorem iEnum_s : iEnumL e ρ = (e ρ).ob fun d => match d with | .lst l => some (l.mapIdx fun i d => .tup [.int i, d]) | _ => none := of_rfl rfl
@[simp] theorem oNone_s : oNone ρ = some none := of_rfl rfl
@[simp] theorem oSome_s : oSome e ρ = (e ρ).ob fun d => match d with | .int i => some (some i) | _ => none := of_rfl rfl
@[simp] theorem eSl_s {lo hi : List D → Option (Option Int)} : eSl e lo hi ρ = (e ρ).ob fun d => (lo ρ).ob fun l => (hi ρ).ob fun h => dSl d l h := of_rfl rfl
@[simp] theorem dSl_l {l : List D} {lo hi : Option Int} : dSl (.lst l) lo hi = some (.lst (cutG l lo hi)) := of_rfl rfl
theorem dSl_t {l : List D} {lo hi : Option Int} (_ : ¬ (HT.sIx l.length 0 lo = 0 ∧ HT.sIx l.length l.length hi = l.length)) : dSl (.tup l) lo hi = some (.tup (cutG l lo hi)) := rfl
end

/-! ### comprehensions, loops -/
theorem lcL_map {α : Type} {t : Tv} {c : List D → Option Bool} {e : Ev} {ρ : List D} (x : α → D) (y : α → D) : ∀ l : List α, (∀ a ∈ l, ∃ ρ1, t (x a) ρ = some ρ1 ∧ c ρ1 = some true ∧ e ρ1 = some (y a)) → lcL t c e ρ (l.map x) = some (l.map y)
  | [], _ => rfl
  | a :: r, h => by
    obtain ⟨ρ1, h1, h2, h3⟩ := h a List.mem_cons_self
    have ih := lcL_map x y r fun b hb => h b (List.mem_cons_of_mem _ hb)
    show lcL t c e ρ (x a :: r.map x) = _
    unfold lcL
    rw [h1]
    simp [h2, h3, ih]
/-- the same by places: the invariant speaks of how many items are done -/
theorem forL_inv {α : Type} {t : Tv} {b : Sv} (x : α → D) (l : List α) (R : Nat → List D → Prop) (ρ : List D) (h0 : R 0 ρ)
    (k : ∀ (i : Nat) (a : α) (ρ : List D), l[i]? = some a → R i ρ → ∃ ρ1 ρ2, t (x a) ρ = some ρ1 ∧ (b ρ1 = some (.nx ρ2) ∨ b ρ1 = some (.ct ρ2)) ∧ R (i + 1) ρ2) : ∃ ρ', forL t b (l.map x) ρ = some (.nx ρ') ∧ R l.length ρ' := by
  have gen : ∀ (m : Nat) (i : Nat) (ρ : List D), m = l.length - i → i ≤ l.length → R i ρ → ∃ ρ', forL t b ((l.drop i).map x) ρ = some (.nx ρ') ∧ R l.length ρ' := by
    intro m
    induction m with
    | zero =>
      intro i ρ hm hi h
      have : i = l.length := by omega
      subst this
      exact ⟨ρ, by simp [forL], h⟩
    | succ m ih =>
      intro i ρ hm hi h
      have hlt : i < l.length := by omega
      obtain ⟨ρ1, ρ2, h1, h2, h3⟩ := k i l[i] ρ (List.getElem?_eq_getElem hlt) h
      obtain ⟨ρ', h4, h5⟩ := ih (i + 1) ρ2 (by omega) hlt h3
      refine ⟨ρ', ?_, h5⟩
      rw [List.drop_eq_getElem_cons hlt]
      show forL t b (x l[i] :: (l.drop (i + 1)).map x) ρ = _
      unfold forL
      rw [h1]
      dsimp only
      rcases h2 with h2 | h2 <;> rw [h2] <;> exact h4
  have := gen l.length 0 ρ (by simp) (Nat.zero_le _) h0
  simpa using this
end VV

/-! ## VSimp2 -/
namespace VV
open PySem PySem.Spec PyProof.Rows L2
/-! ### the trees of dicts, evaluated -/
section
variable {i n : Nat} {ρ : List D} {d : D} {e e1 e2 : Ev} {tk : Bool} {ks : List Ky} {l : List D} {t : Tv} {b : Sv}
@[simp] theorem sPut_s {f : D → D → D → Option D} : sPut f i e1 e2 ρ = (e2 ρ).ob fun v => (e1 ρ).ob fun x => (ρ[i]?).ob fun d => (f d x v).ob fun z => some (.nx (ρ.set i z)) := of_rfl rfl
@[simp] theorem kyF_int {k : Int} : (D.int k).ky false = some (.k (.inl k)) := of_rfl rfl
@[simp] theorem dGet_s {x : D} : dGet [.dic tk ks l, x] = (x.ky tk).ob (lkD ks l) := of_rfl rfl
@[simp] theorem dGet2_s {x z : D} : dGet2 [.dic tk ks l, x, z] = (x.ky tk).map fun k => (lkD ks l k).getD z := of_rfl rfl
@[simp] theorem dIn_s {x : D} : dIn [x, .dic tk ks l] = (x.ky tk).map fun k => .bl (lkD ks l k).isSome := of_rfl rfl
@[simp] theorem dKeysL_s : dKeysL [.dic false ks l] = some (.lst (ks.map Ky.d)) := of_rfl rfl
@[simp] theorem dDicC_s : dDicC [.dic false ks l] = some (.dic false ks l) := of_rfl rfl
@[simp] theorem eDisp_s {a : List D → Option (List D)} : eDisp a ρ = (a ρ).ob (dDispA [] []) := of_rfl rfl
theorem isi_s {T N : String} {r : Bool} (h : d.tyN = some N) (hk : kitB N T = some r) : dIsi T [d] = some (.bl r) := by
  unfold dIsi
  simp only [h, Option.bind_some, hk, Option.map_some]
theorem kit_dd : kitB "dict" "dict" = some true := by decide +kernel
theorem kit_ii : kitB "int" "int" = some true := by decide +kernel
theorem kit_ib : kitB "int" "bool" = some false := by decide +kernel
@[simp] theorem isi_dict : dIsi "dict" [.dic false ks l] = some (.bl true) := isi_s (N := "dict") rfl kit_dd
@[simp] theorem isi_int {k : Int} : dIsi "int" [.int k] = some (.bl true) := isi_s (N := "int") rfl kit_ii
@[simp] theorem isi_intb {k : Int} : dIsi "bool" [.int k] = some (.bl false) := isi_s (N := "int") rfl kit_ib
end
end VV

/-! ## VGo -/
/-! walking through trees: a statement goes to an out that keeps Q -/
namespace VV
open PySem PySem.Spec PyProof.Rows L2
theorem mul_e {a b c : Int} (h : CMulX a b) (e : a * b = c) : eP dMul (aCons (eC (.int a)) (aCons (eC (.int b)) aNil)) = eC (.int c) := by
  funext ρ
  rw [← e]
  exact dMul_s h
section
variable {X : Cx} {LL : List Nat} {Γ : List Kd} {e : Expr} {a b c : Int}
theorem ex_powc (h : EX X LL Γ e (eP dPow (aCons (eC (.int a)) (aCons (eC (.int b)) aNil))) .flat) (hc : CPow a b) (he : a ^ b.toNat = c) : EX X LL Γ e (eC (.int c)) .flat := by rw [← pow_e hc he]; exact h
theorem ex_mulc (h : EX X LL Γ e (eP dMul (aCons (eC (.int a)) (aCons (eC (.int b)) aNil))) .flat) (hc : CMulX a b) (he : a * b = c) : EX X LL Γ e (eC (.int c)) .flat := by rw [← mul_e hc he]; exact h
end
def Go (s : Sv) (ρ : List D) (Q : Out → Prop) : Prop := ∃ o, s ρ = some o ∧ Q o
def Cont (b : Sv) (Q : Out → Prop) : Out → Prop
  | .nx ρ => Go b ρ Q
  | o => Q o
section
variable {i n : Nat} {ρ : List D} {d : D} {e e1 e2 : Ev} {s1 s2 a b : Sv} {c : List D → Option Bool} {t : Tv} {pk : List Kd} {ds : List D} {Q : Out → Prop}
@[simp] theorem cont_nx : Cont b Q (.nx ρ) = Go b ρ Q := of_rfl rfl
@[simp] theorem cont_rt : Cont b Q (.rt d) = Q (.rt d) := of_rfl rfl
@[simp] theorem cont_ct : Cont b Q (.ct ρ) = Q (.ct ρ) := of_rfl rfl
@[simp] theorem go_seq : Go (sSeq a b) ρ Q = Go a ρ (Cont b Q) := by
  unfold Go
  rw [sSeq_s]
  cases h : a ρ with
  | none => simp [seqO]
  | some o =>
    cases o with
    | nx r => simp [seqO, Cont, Go]
    | _ => simp [seqO, Cont]
@[simp] theorem go_nil : Go sNil ρ Q = Q (.nx ρ) := by simp [Go]
@[simp] theorem go_pass : Go sPass ρ Q = Q (.nx ρ) := by simp [Go]
@[simp] theorem go_ct : Go sCont ρ Q = Q (.ct ρ) := by simp [Go]
@[simp] theorem go_retN : Go sRetN ρ Q = Q (.rt .non) := by simp [Go]
@[simp] theorem go_set : Go (sSet i e) ρ Q = ∃ d, e ρ = some d ∧ Q (.nx (ρ.set i d)) := by
  unfold Go
  rw [sSet_s]
  cases e ρ <;> simp
@[simp] theorem go_ret : Go (sRet e) ρ Q = ∃ d, e ρ = some d ∧ Q (.rt d) := by
  unfold Go
  rw [sRet_s]
  cases e ρ <;> simp
@[simp] theorem go_asg : Go (sAsg t e) ρ Q = ∃ d, e ρ = some d ∧ ∃ ρ', t d ρ = some ρ' ∧ Q (.nx ρ') := by
  unfold Go
  rw [sAsg_s]
  cases e ρ with
  | none => simp
  | some d => cases h : t d ρ <;> simp [h]
@[simp] theorem go_mut {f : D → D → Option D} : Go (sMut f i e) ρ Q = ∃ y, e ρ = some y ∧ ∃ x, ρ[i]? = some x ∧ ∃ z, f x y = some z ∧ Q (.nx (ρ.set i z)) := by
  unfold Go
  rw [sMut_s]
  cases e ρ with
  | none => simp
  | some y =>
    cases h : ρ[i]? with
    | none => simp
    | some x => cases h2 : f x y <;> simp [h2]
@[simp] theorem go_put {f : D → D → D → Option D} : Go (sPut f i e1 e2) ρ Q = ∃ v, e2 ρ = some v ∧ ∃ x, e1 ρ = some x ∧ ∃ d, ρ[i]? = some d ∧ ∃ z, f d x v = some z ∧ Q (.nx (ρ.set i z)) := by
  unfold Go
  rw [sPut_s]
  cases e2 ρ with
  | none => simp
  | some v =>
    cases e1 ρ with
    | none => simp
    | some x =>
      cases h : ρ[i]? with
      | none => simp
      | some d => cases h2 : f d x v <;> simp [h2]
theorem Go.set (h : e ρ = some d) (k : Go b (ρ.set i d) Q) : Go (sSeq (sSet i e) b) ρ Q := by
  rw [go_seq, go_set]; exact ⟨d, h, k⟩
theorem Go.set1 (h : e ρ = some d) (k : Q (.nx (ρ.set i d))) : Go (sSet i e) ρ Q := by
  rw [go_set]; exact ⟨d, h, k⟩
theorem Go.ret (h : e ρ = some d) (k : Q (.rt d)) : Go (sRet e) ρ Q := by
  rw [go_ret]; exact ⟨d, h, k⟩
theorem Go.asg {ρ' : List D} (h : e ρ = some d) (h2 : t d ρ = some ρ') (k : Go b ρ' Q) : Go (sSeq (sAsg t e) b) ρ Q := by
  rw [go_seq, go_asg]; exact ⟨d, h, ρ', h2, k⟩
theorem Go.mut1 {f : D → D → Option D} {x y z : D} (h : e ρ = some y) (h1 : ρ[i]? = some x) (h2 : f x y = some z) (k : Q (.nx (ρ.set i z))) : Go (sMut f i e) ρ Q := by
  rw [go_mut]; exact ⟨y, h, x, h1, z, h2, k⟩
theorem Go.put1 {f : D → D → D → Option D} {x y v z : D} (h : e2 ρ = some v) (h0 : e1 ρ = some x) (h1 : ρ[i]? = some y) (h2 : f y x v = some z) (k : Q (.nx (ρ.set i z))) : Go (sPut f i e1 e2) ρ Q := by
  rw [go_put]; exact ⟨v, h, x, h0, y, h1, z, h2, k⟩
theorem go_if : Go (sIf c a b) ρ Q = ∃ t, c ρ = some t ∧ Go (if t then a else b) ρ Q := by
  unfold Go
  rw [sIf_s]
  cases c ρ with
  | none => simp
  | some t => cases t <;> simp
theorem go_t (h : c ρ = some true) : Go (sIf c a b) ρ Q = Go a ρ Q := by rw [go_if, h]; simp
theorem go_f (h : c ρ = some false) : Go (sIf c a b) ρ Q = Go b ρ Q := by rw [go_if, h]; simp
/-- if p: a, else b, where the test tells whether p -/
theorem go_ite {p : Prop} [Decidable p] (h : c ρ = some (decide p)) (h1 : p → Go a ρ Q) (h2 : ¬ p → Go b ρ Q) : Go (sIf c a b) ρ Q := by
  by_cases hp : p
  · rw [go_t (by rw [h]; simp [hp])]; exact h1 hp
  · rw [go_f (by rw [h]; simp [hp])]; exact h2 hp
/-- a test that does not hold, with nothing else to do -/
theorem Go.no (h : c ρ = some false) (k : Go b ρ Q) : Go (sSeq (sIf c a sNil) b) ρ Q := by rw [go_seq, go_f h, go_nil]; exact k
theorem Go.ite {p : Prop} [Decidable p] (h : c ρ = some (decide p)) (h1 : p → Go a ρ (Cont s2 Q)) (h2 : ¬ p → Go b ρ (Cont s2 Q)) : Go (sSeq (sIf c a b) s2) ρ Q := by
  rw [go_seq]; exact go_ite h h1 h2
theorem fn_go {r : Res} {m : Sv} (hp : pkOk pk ds = true) (h : Go m (ds ++ List.replicate (n - ds.length) .non) (fun o => outR (some o) = some r)) : fnSem n pk m ds = some r := by
  rw [fn_s hp]
  obtain ⟨o, h1, h2⟩ := h
  rw [h1]; exact h2
theorem fn_ex {P : D → Prop} {m : Sv} (hp : pkOk pk ds = true) (h : Go m (ds ++ List.replicate (n - ds.length) .non) (fun o => ∃ d, o = .rt d ∧ P d)) : ∃ d, fnSem n pk m ds = some (.ret d) ∧ P d := by
  obtain ⟨o, h1, d, rfl, h2⟩ := h
  exact ⟨d, by rw [fn_s hp, h1]; rfl, h2⟩
/-- one turn of a loop -/
def Turn (t : Tv) (b : Sv) (R : List D → Prop) (d : D) (ρ : List D) : Prop := ∃ ρ1, t d ρ = some ρ1 ∧ Go b ρ1 fun o => ∃ ρ2, (o = .nx ρ2 ∨ o = .ct ρ2) ∧ R ρ2
theorem for_turns {α : Type} (x : α → D) (l : List α) (R : Nat → List D → Prop) (h0 : R 0 ρ) (k : ∀ i a ρ, l[i]? = some a → R i ρ → Turn t b (R (i + 1)) (x a) ρ) : ∃ ρ', forL t b (l.map x) ρ = some (.nx ρ') ∧ R l.length ρ' :=
  forL_inv x l R ρ h0 fun i a ρ hi h => by
    obtain ⟨ρ1, h1, o, h2, ρ2, h3, h4⟩ := k i a ρ hi h
    refine ⟨ρ1, ρ2, h1, ?_, h4⟩
    rcases h3 with rfl | rfl
    · exact .inl h2
    · exact .inr h2
theorem go_for {α : Type} {it : List D → Option (List D)} (x : α → D) (l : List α) (R : Nat → List D → Prop) (hit : it ρ = some (l.map x)) (h0 : R 0 ρ) (k : ∀ i a ρ, l[i]? = some a → R i ρ → Turn t b (R (i + 1)) (x a) ρ)
    (fin : ∀ ρ', R l.length ρ' → Q (.nx ρ')) : Go (sFor it t b) ρ Q := by
  obtain ⟨ρ', h1, h2⟩ := for_turns x l R h0 k
  refine ⟨_, ?_, fin ρ' h2⟩
  rw [sFor_s, hit]
  exact h1
end
end VV

/-! ## VTab -/
namespace VP
open PySem PySem.Spec PyProof.Rows L2 VV
def m_nought : Sv :=
  (sRet (eTup (aCons (eVar 0) (aCons (eVar 1) (aCons (eLc (iRng (aCons (eVar 0) aNil)) (gN 2) cYes (eP dRep (aCons (eLst (aCons (eC (.int 0)) aNil)) (aCons (eVar 1) aNil)))) aNil)))))
def f_nought : List D → Option Res := fnSem 3 [.flat, .flat] m_nought
def m_unit : Sv :=
  (sRet (eTup (aCons (eVar 0) (aCons (eVar 0) (aCons (eLc (iRng (aCons (eVar 0) aNil)) (gN 1) cYes (eLc (iRng (aCons (eVar 0) aNil)) (gN 2) cYes (eP dIntC (aCons (eP dEq (aCons (eVar 1) (aCons (eVar 2) aNil))) aNil)))) aNil)))))
def f_unit : List D → Option Res := fnSem 3 [.flat] m_unit
def m_turned : Sv :=
  (sSeq (sAsg (gT (gsCons (gF (gN 1)) (gsCons (gF (gN 2)) (gsCons (gN 3) gsNil)))) (eVar 0))
  (sRet (eTup (aCons (eVar 2) (aCons (eVar 1) (aCons (eLc (iRng (aCons (eVar 2) aNil)) (gN 4) cYes (eLc (iRng (aCons (eVar 1) aNil)) (gN 5) cYes (eChk D.isFlat (eP dIdx (aCons (eP dIdx (aCons (eVar 3) (aCons (eVar 5) aNil))) (aCons (eVar 4) aNil)))))) aNil))))))
def f_turned : List D → Option Res := fnSem 6 [.lab none [0] false] m_turned
def m_plus : Sv :=
  (sSeq (sIf (tOf (eP dNe (aCons (eChk D.isFlat (eSl (eChk D.isTup (eVar 0)) oNone (oSome (eC (.int 2))))) (aCons (eChk D.isFlat (eSl (eChk D.isTup (eVar 1)) oNone (oSome (eC (.int 2))))) aNil))))
  sNever
  sNil)
  (sRet (eTup (aCons (eChk D.isFlat (eP dIdx (aCons (eVar 0) (aCons (eC (.int 0)) aNil)))) (aCons (eChk D.isFlat (eP dIdx (aCons (eVar 0) (aCons (eC (.int 1)) aNil)))) (aCons (eLc (iZipL (aCons (eP dIdx (aCons (eVar 0) (aCons (eC (.int 2)) aNil))) (aCons (eP dIdx (aCons (eVar 1) (aCons (eC (.int 2)) aNil))) aNil))) (gT (gsCons (gN 2) (gsCons (gN 3) gsNil))) cYes (eLc (iZipL (aCons (eVar 2) (aCons (eVar 3) aNil))) (gT (gsCons (gF (gN 4)) (gsCons (gF (gN 5)) gsNil))) cYes (eP dAdd (aCons (eVar 4) (aCons (eVar 5) aNil))))) aNil))))))
def f_plus : List D → Option Res := fnSem 6 [.lab none [0] false, .lab none [0] false] m_plus
def m_many_times : Sv :=
  (sRet (eTup (aCons (eChk D.isFlat (eP dIdx (aCons (eVar 1) (aCons (eC (.int 0)) aNil)))) (aCons (eChk D.isFlat (eP dIdx (aCons (eVar 1) (aCons (eC (.int 1)) aNil)))) (aCons (eLc (iLst (eP dIdx (aCons (eVar 1) (aCons (eC (.int 2)) aNil)))) (gN 2) cYes (eLc (iLst (eVar 2)) (gF (gN 3)) cYes (eP dMul (aCons (eVar 0) (aCons (eVar 3) aNil))))) aNil)))))
def f_many_times : List D → Option Res := fnSem 4 [.flat, .lab none [0] false] m_many_times
def m_product : Sv :=
  (sSeq (sIf (tOf (eP dNe (aCons (eChk D.isFlat (eP dIdx (aCons (eVar 0) (aCons (eC (.int 1)) aNil)))) (aCons (eChk D.isFlat (eP dIdx (aCons (eVar 1) (aCons (eC (.int 0)) aNil)))) aNil))))
  sNever
  sNil)
  (sSeq (sSet 2 (eLst aNil))
  (sSeq (sFor (iLst (eP dIdx (aCons (eVar 0) (aCons (eC (.int 2)) aNil)))) (gN 3)
  (sSeq (sSet 4 (eP dRep (aCons (eLst (aCons (eC (.int 0)) aNil)) (aCons (eChk D.isFlat (eP dIdx (aCons (eVar 1) (aCons (eC (.int 1)) aNil)))) aNil))))
  (sSeq (sFor (iZipL (aCons (eVar 3) (aCons (eP dIdx (aCons (eVar 1) (aCons (eC (.int 2)) aNil))) aNil))) (gT (gsCons (gF (gN 5)) (gsCons (gN 6) gsNil)))
  (sIf (tOf (eP dNe (aCons (eVar 5) (aCons (eC (.int 0)) aNil))))
  (sSet 4 (eLc (iZipL (aCons (eVar 4) (aCons (eVar 6) aNil))) (gT (gsCons (gF (gN 7)) (gsCons (gF (gN 8)) gsNil))) cYes (eP dAdd (aCons (eVar 7) (aCons (eP dMul (aCons (eVar 5) (aCons (eVar 8) aNil))) aNil)))))
  sNil))
  (sMut dPush 2 (eVar 4)))))
  (sRet (eTup (aCons (eChk D.isFlat (eP dIdx (aCons (eVar 0) (aCons (eC (.int 0)) aNil)))) (aCons (eChk D.isFlat (eP dIdx (aCons (eVar 1) (aCons (eC (.int 1)) aNil)))) (aCons (eVar 2) aNil))))))))
def f_product : List D → Option Res := fnSem 9 [.lab none [0] false, .lab none [0] false] m_product
def m__law_cell_at : Sv :=
  (sSeq (sIf (tOf (eP dLt (aCons (eVar 1) (aCons (eP dLen (aCons (eVar 0) aNil)) aNil))))
  (sRet (eP dIdx (aCons (eVar 0) (aCons (eVar 1) aNil))))
  sNil)
  (sRet (eC (.int 0))))
def f__law_cell_at : List D → Option Res := fnSem 2 [.flat, .flat] m__law_cell_at
def m__law_row : Sv :=
  (sSeq (sSet 3 (eP dDiv (aCons (eVar 0) (aCons (eC (.int 2)) aNil))))
  (sSeq (sSet 4 (eLst aNil))
  (sSeq (sSet 5 (eVar 3))
  (sSeq (sFor (iRng (aCons (eVar 1) aNil)) (gN 6)
  (sSet 5 (eP dDiv (aCons (eVar 5) (aCons (eVar 2) aNil)))))
  (sSeq (sFor (iRng (aCons (eVar 1) aNil)) (gN 6)
  (sIf (tOf (eP dGt (aCons (eVar 5) (aCons (eC (.int 0)) aNil))))
  (sSeq (sMut dPush 4 (eP dMod (aCons (eVar 3) (aCons (eVar 2) aNil))))
  (sSet 3 (eP dDiv (aCons (eVar 3) (aCons (eVar 2) aNil)))))
  (sSeq (sSet 7 (eP dMod (aCons (eP dMul (aCons (eP dAdd (aCons (eP dAdd (aCons (eP dAdd (aCons (eP dMod (aCons (eVar 3) (aCons (eC (.int 2147483629)) aNil))) (aCons (eP dMul (aCons (eC (.int 7919)) (aCons (eVar 6) aNil))) aNil))) (aCons (eP dMul (aCons (eVar 6) (aCons (eVar 6) aNil))) aNil))) (aCons (eC (.int 1)) aNil))) (aCons (eC (.int 48271)) aNil))) (aCons (eC (.int 2147483647)) aNil))))
  (sSeq (sSet 8 (eP dMod (aCons (eP dMul (aCons (eP dAdd (aCons (eVar 7) (aCons (eP dMul (aCons (eC (.int 31)) (aCons (eVar 6) aNil))) aNil))) (aCons (eC (.int 69621)) aNil))) (aCons (eC (.int 998244353)) aNil))))
  (sMut dPush 4 (eP dMod (aCons (eP dAdd (aCons (eP dMul (aCons (eVar 7) (aCons (eVar 8) aNil))) (aCons (eP dDiv (aCons (eVar 7) (aCons (eC (.int 7)) aNil))) aNil))) (aCons (eVar 2) aNil))))))))
  (sRet (eVar 4)))))))
def f__law_row : List D → Option Res := fnSem 9 [.flat, .flat, .flat] m__law_row
def m__law_entry : Sv :=
  (sSeq (sIf (tOf (eP dLt (aCons (eP dMod (aCons (eVar 0) (aCons (eC (.int 8)) aNil))) (aCons (eC (.int 3)) aNil))))
  (sRet (eC (.int 0)))
  sNil)
  (sSeq (sIf (tOf (eP dLt (aCons (eP dMod (aCons (eVar 0) (aCons (eC (.int 8)) aNil))) (aCons (eC (.int 7)) aNil))))
  (sRet (eP dSub (aCons (eP dMod (aCons (eP dDiv (aCons (eVar 0) (aCons (eC (.int 8)) aNil))) (aCons (eC (.int 21)) aNil))) (aCons (eC (.int 10)) aNil))))
  sNil)
  (sRet (eP dAdd (aCons (eP dMul (aCons (eP dSub (aCons (eP dDiv (aCons (eVar 0) (aCons (eC (.int 8)) aNil))) (aCons (eC (.int 256)) aNil))) (aCons (eC (.int 1000000000)) aNil))) (aCons (eP dDiv (aCons (eVar 0) (aCons (eC (.int 8)) aNil))) aNil))))))
def f__law_entry : List D → Option Res := fnSem 1 [.flat] m__law_entry
def m__law_table : Sv :=
  (sSeq (sSet 3 (eChk D.kidsFlat (eCall f__law_row (aCons (eVar 0) (aCons (eP dMul (aCons (eVar 1) (aCons (eVar 2) aNil))) (aCons (eC (.int 4096)) aNil))))))
  (sRet (eTup (aCons (eVar 1) (aCons (eVar 2) (aCons (eLc (iRng (aCons (eVar 1) aNil)) (gN 4) cYes (eLc (iRng (aCons (eVar 2) aNil)) (gN 5) cYes (eCall f__law_entry (aCons (eChk D.isFlat (eP dIdx (aCons (eVar 3) (aCons (eP dAdd (aCons (eP dMul (aCons (eVar 4) (aCons (eVar 2) aNil))) (aCons (eVar 5) aNil))) aNil)))) aNil)))) aNil))))))
def f__law_table : List D → Option Res := fnSem 6 [.flat, .flat, .flat] m__law_table

/-! ### numbers, sums -/
def Bn (n : Nat) (x : Int) : Prop := x.natAbs < 2 ^ n
theorem Bn.zero {n : Nat} : Bn n 0 := Nat.two_pow_pos n
theorem Bn.cmul {n m : Nat} {x y : Int} (h : Bn n x) (h' : Bn m y) (hs : n + m ≤ 134217728) : CMulX x y := mulx_ok h h' hs
def S : Nat → (Nat → Int) → Int
  | 0, _ => 0
  | n + 1, u => S n u + u n

/-! ### tables as trees -/
def rowD (w : Nat) (r : Nat → Int) : D := .lst ((List.range w).map fun j => .int (r j))
def encT (h w : Nat) (f : Nat → Nat → Int) : D := .tup [.int h, .int w, .lst ((List.range h).map fun i => rowD w (f i))]
theorem rowD_congr {w : Nat} {r s : Nat → Int} (h : ∀ j, j < w → r j = s j) : rowD w r = rowD w s := by
  unfold rowD
  congr 1
  apply List.map_congr_left
  intro j hj
  rw [h j (List.mem_range.mp hj)]
theorem encT_congr {h w : Nat} {f g : Nat → Nat → Int} (e : ∀ i j, i < h → j < w → f i j = g i j) : encT h w f = encT h w g := by
  unfold encT
  have : ((List.range h).map fun i => rowD w (f i)) = (List.range h).map fun i => rowD w (g i) := by
    apply List.map_congr_left
    intro i hi
    exact rowD_congr fun j hj => e i j (List.mem_range.mp hi) hj
  rw [this]
theorem toPL_map {α : Type} (x : α → D) : ∀ l : List α, D.toPL (l.map x) = l.map fun a => (x a).toP
  | [] => by simp [D.toPL]
  | a :: r => by simp [D.toPL, toPL_map x r]
theorem canLayAll_map {α : Type} (x : α → PyData) : ∀ l : List α, (∀ a ∈ l, (x a).canLay0 = true) → PyData.canLayAll0 (l.map x) = true
  | [], _ => by simp [PyData.canLayAll0]
  | a :: r, h => by
    simp only [List.map_cons, PyData.canLayAll0, Bool.and_eq_true]
    exact ⟨h a List.mem_cons_self, canLayAll_map x r fun b hb => h b (List.mem_cons_of_mem _ hb)⟩
theorem depthAll_map {α : Type} (x : α → PyData) (n : Nat) : ∀ l : List α, (∀ a ∈ l, (x a).depth ≤ n) → PyData.depthAll (l.map x) ≤ n
  | [], _ => by simp [PyData.depthAll]
  | a :: r, h => by
    simp only [List.map_cons, PyData.depthAll]
    exact Nat.max_le.mpr ⟨h a List.mem_cons_self, depthAll_map x n r fun b hb => h b (List.mem_cons_of_mem _ hb)⟩
/-- a tree that the look at == takes -/
def Ok (n : Nat) (d : D) : Prop := d.toP.canLay0 = true ∧ d.toP.depth ≤ n
theorem Ok.shd {n : Nat} {d : D} (h : Ok n d) (hn : n ≤ 64) : d.shd = true := by
  unfold D.shd SeqAt.shaped
  rw [Bool.and_eq_true]
  exact ⟨h.1, decide_eq_true (Nat.le_trans h.2 hn)⟩
theorem Ok.int {k : Int} : Ok 0 (.int k) := ⟨by simp [D.toP, PyData.canLay0], by simp [D.toP, PyData.depth]⟩
theorem Ok.mono {n m : Nat} {d : D} (h : Ok n d) (hm : n ≤ m) : Ok m d := ⟨h.1, Nat.le_trans h.2 hm⟩
theorem Ok.lst {α : Type} {n : Nat} {x : α → D} {l : List α} (h : ∀ a ∈ l, Ok n (x a)) : Ok (n + 1) (.lst (l.map x)) := by
  refine ⟨?_, ?_⟩
  · simp only [D.toP, PyData.canLay0, toPL_map]
    exact canLayAll_map _ l fun a ha => (h a ha).1
  · simp only [D.toP, PyData.depth, toPL_map]
    exact Nat.succ_le_succ (depthAll_map _ n l fun a ha => (h a ha).2)
theorem Ok.tup {n : Nat} {l : List D} (h : ∀ a ∈ l, Ok n a) : Ok (n + 1) (.tup l) := by
  refine ⟨?_, ?_⟩
  · simp only [D.toP, PyData.canLay0]
    rw [← List.map_id l, toPL_map]
    exact canLayAll_map _ l fun a ha => (h a ha).1
  · simp only [D.toP, PyData.depth]
    rw [← List.map_id l, toPL_map]
    exact Nat.succ_le_succ (depthAll_map _ n l fun a ha => (h a ha).2)
theorem Ok.lst' {n : Nat} {l : List D} (h : ∀ a ∈ l, Ok n a) : Ok (n + 1) (.lst l) := by
  rw [← List.map_id l]
  exact Ok.lst h
theorem ok_encT {h w : Nat} {f : Nat → Nat → Int} : Ok 3 (encT h w f) := by
  refine Ok.tup fun a ha => ?_
  simp only [List.mem_cons, List.not_mem_nil, or_false] at ha
  rcases ha with rfl | rfl | rfl
  · exact Ok.int.mono (by decide)
  · exact Ok.int.mono (by decide)
  · exact Ok.lst fun i _ => Ok.lst fun j _ => Ok.int
theorem eqv_rfl {d : D} (h : d.toP.canLay0 = true) : d.eqv d = true := SeqAt.eqv_refl _ h
theorem dNe_same {n : Nat} {d : D} (h : Ok n d) (hn : n ≤ 64) : dNe [d, d] = some (.bl false) := by
  unfold dNe
  dsimp only
  rw [h.shd hn, eqv_rfl h.1]
  rfl
@[simp] theorem dEq_int {a b : Int} : dEq [.int a, .int b] = some (.bl (a == b)) := by
  unfold dEq
  dsimp only
  rw [Ok.int.shd (by decide), Ok.int.shd (by decide)]
  simp [D.eqv, D.toP, PyData.eqv]
@[simp] theorem dNe_int {a b : Int} : dNe [.int a, .int b] = some (.bl (a != b)) := by
  unfold dNe
  dsimp only
  rw [Ok.int.shd (by decide), Ok.int.shd (by decide)]
  simp [D.eqv, D.toP, PyData.eqv, bne]

/-! ### the shared functions -/
theorem cell_ok (ns : List Int) (k : Nat) : f__law_cell_at [.scr (ns.map D.int), .int k] = some (.ret (.int (ns.getD k 0))) := by
  unfold f__law_cell_at
  rw [fn_s (by simp)]
  simp only [m__law_cell_at]
  by_cases h : k < ns.length
  · simp [sIf_s, h, atI_n]
  · simp [sIf_s, h]
theorem nought_ok (h w : Nat) (hh : h ≤ 1000000) (hw : w ≤ 1000000) : f_nought [.int h, .int w] = some (.ret (encT h w fun _ _ => 0)) := by
  unfold f_nought
  rw [fn_s (by simp)]
  simp only [m_nought]
  simp only [sRet_s, eTup_s, aCons_s, eVar_s, eLc_s]
  rw [iRng1_s (k := h) (by simp) (by omega) (by omega), rng0]
  have row : rowD w (fun _ => 0) = .lst (List.replicate w [D.int 0]).flatten := by
    unfold rowD
    rw [List.map_const', List.length_range]
    congr 1
    induction w with
    | zero => rfl
    | succ w ih => rw [List.replicate_succ, List.replicate_succ, List.flatten_cons, ih (by omega)]; rfl
  have e := lcL_map (t := gN 2) (c := cYes) (e := eP dRep (aCons (eLst (aCons (eC (.int 0)) aNil)) (aCons (eVar 1) aNil))) (ρ := [.int h, .int w] ++ List.replicate (3 - [D.int h, D.int w].length) .non) (fun i : Nat => D.int i) (fun _ => rowD w fun _ => 0) (List.range h) fun a ha => by
    refine ⟨_, rfl, rfl, ?_⟩
    simp only [eP_s, aCons_s, eLst_s, eC_s, aNil_s, eVar_s, ob_some]
    simp only [List.length_cons, List.length_nil, List.cons_append, List.nil_append, List.set_cons_succ, List.getElem?_cons_succ, List.getElem?_cons_zero, ob_some]
    unfold dRep
    dsimp only
    rw [if_pos ⟨by simp, by omega, by omega, by simp; omega⟩, row, Int.toNat_natCast]
  simp only [Int.toNat_natCast] at e ⊢
  rw [ob_some, e]
  simp [encT]
end VP

/-! ## VTab2 -/
namespace VP
open PySem PySem.Spec PyProof.Rows L2 VV
theorem cm {x y : Int} (hx : x.natAbs < 2 ^ 63) (hy : y.natAbs < 2 ^ 63) : CMulX x y := Bn.cmul (n := 63) (m := 63) hx hy (by decide)
theorem cdv {x : Int} {n : Int} (h : 0 < n) (h2 : n.natAbs < 2 ^ 60) : CDivW x n := ⟨h, by
  have : n.natAbs.log2 < 60 := (Nat.log2_lt (by omega)).mpr h2
  omega⟩
theorem row_ok (cell : Int) (many base : Nat) (hm : many ≤ 1000000) (hb : 0 < base) (hb2 : base < 2 ^ 60) :
    ∃ r : List Int, f__law_row [.int cell, .int many, .int base] = some (.ret (.lst (r.map D.int))) ∧ r.length = many ∧ ∀ x ∈ r, 0 ≤ x ∧ x < base := by
  unfold f__law_row
  rw [fn_s (by simp)]
  have e0 : [D.int cell, .int many, .int base] ++ List.replicate (9 - [D.int cell, .int many, .int base].length) .non = [.int cell, .int many, .int base, .non, .non, .non, .non, .non, .non] := rfl
  rw [e0]
  have hcb : ∀ y : Int, dDiv [.int y, .int base] = some (.int (y / base)) := fun y => dDiv_s (cdv (by omega) (by omega))
  obtain ⟨ρ1, l1, R1⟩ := forL_inv (t := gN 6) (b := sSet 5 (eP dDiv (aCons (eVar 5) (aCons (eVar 2) aNil)))) (fun i : Nat => D.int i) (List.range many)
    (fun _ ρ => ∃ (y : Int) (k : D), ρ = [.int cell, .int many, .int base, .int (cell / 2), .lst [], .int y, k, .non, .non])
    [.int cell, .int many, .int base, .int (cell / 2), .lst [], .int (cell / 2), .non, .non, .non] ⟨_, _, rfl⟩
    (fun i a ρ ha hR => by
      obtain ⟨y, k, rfl⟩ := hR
      refine ⟨_, _, rfl, Or.inl ?_, ⟨y / base, .int a, rfl⟩⟩
      simp [hcb])
  obtain ⟨y1, k1, rfl⟩ := R1
  obtain ⟨ρ2, l2, R2⟩ := forL_inv (t := gN 6) (b := (sIf (tOf (eP dGt (aCons (eVar 5) (aCons (eC (.int 0)) aNil))))
  (sSeq (sMut dPush 4 (eP dMod (aCons (eVar 3) (aCons (eVar 2) aNil))))
  (sSet 3 (eP dDiv (aCons (eVar 3) (aCons (eVar 2) aNil)))))
  (sSeq (sSet 7 (eP dMod (aCons (eP dMul (aCons (eP dAdd (aCons (eP dAdd (aCons (eP dAdd (aCons (eP dMod (aCons (eVar 3) (aCons (eC (.int 2147483629)) aNil))) (aCons (eP dMul (aCons (eC (.int 7919)) (aCons (eVar 6) aNil))) aNil))) (aCons (eP dMul (aCons (eVar 6) (aCons (eVar 6) aNil))) aNil))) (aCons (eC (.int 1)) aNil))) (aCons (eC (.int 48271)) aNil))) (aCons (eC (.int 2147483647)) aNil))))
  (sSeq (sSet 8 (eP dMod (aCons (eP dMul (aCons (eP dAdd (aCons (eVar 7) (aCons (eP dMul (aCons (eC (.int 31)) (aCons (eVar 6) aNil))) aNil))) (aCons (eC (.int 69621)) aNil))) (aCons (eC (.int 998244353)) aNil))))
  (sMut dPush 4 (eP dMod (aCons (eP dAdd (aCons (eP dMul (aCons (eVar 7) (aCons (eVar 8) aNil))) (aCons (eP dDiv (aCons (eVar 7) (aCons (eC (.int 7)) aNil))) aNil))) (aCons (eVar 2) aNil)))))))) (fun i : Nat => D.int i) (List.range many)
    (fun n ρ => ∃ (z y : Int) (k a b : D) (r : List Int), ρ = [.int cell, .int many, .int base, .int z, .lst (r.map D.int), .int y, k, a, b] ∧ r.length = n ∧ ∀ x ∈ r, 0 ≤ x ∧ x < base)
    [.int cell, .int many, .int base, .int (cell / 2), .lst [], .int y1, k1, .non, .non] ⟨_, _, _, _, _, [], rfl, rfl, fun _ h => nomatch h⟩
    (fun i a ρ ha hR => by
      obtain ⟨z, y, k, a1, b1, r, rfl, hl, hr⟩ := hR
      have hi : i < many := by
        have := (List.getElem?_eq_some_iff.mp ha).1
        simpa using this
      have hai : a = i := by
        have h2 := (List.getElem?_eq_some_iff.mp ha).2
        simpa using h2.symm
      subst hai
      have hlen : r.length < 1000000 := by omega
      have hpush : ∀ d : D, dPush (.lst (r.map D.int)) d = some (.lst (r.map D.int ++ [d])) := fun d => dPush_s (by simpa using hlen)
      have hmod : ∀ x : Int, 0 ≤ x % base ∧ x % base < base := fun x => ⟨Int.emod_nonneg _ (by omega), Int.emod_lt_of_pos _ (by omega)⟩
      have hmb : ∀ x : Int, dMod [.int x, .int base] = some (.int (x % base)) := fun x => dMod_s (by omega)
      by_cases hy : 0 < y
      · refine ⟨_, [.int cell, .int many, .int base, .int (z / base), .lst ((r ++ [z % base]).map D.int), .int y, .int a, a1, b1], rfl, Or.inl ?_, ⟨_, _, _, _, _, _, rfl, by simp [hl], ?_⟩⟩
        · simp [sIf_s, hy, hmb, hpush, hcb]
        · intro x hx
          rcases List.mem_append.mp hx with h | h
          · exact hr x h
          · rw [List.mem_singleton.mp h]; exact hmod _
      · have hii : ((a : Int) * a) ≤ 1000000000000 ∧ 0 ≤ (a : Int) * a := by
          have h1 : a * a ≤ 1000000 * 1000000 := Nat.mul_le_mul (by omega) (by omega)
          omega
        have hz := Int.emod_lt_of_pos z (b := 2147483629) (by decide)
        have hz0 := Int.emod_nonneg z (b := 2147483629) (by decide)
        have h1 : dMul [.int 7919, .int (a : Int)] = some (.int (7919 * a)) := dMul_s (cm (by decide) (by omega))
        have h2 : dMul [.int (a : Int), .int (a : Int)] = some (.int (a * a)) := dMul_s (cm (by omega) (by omega))
        obtain ⟨u, hu⟩ : ∃ u : Int, u = z % 2147483629 + 7919 * a + a * a + 1 := ⟨_, rfl⟩
        have h3 : dMul [.int u, .int 48271] = some (.int (u * 48271)) := dMul_s (cm (by omega) (by decide))
        obtain ⟨v, hv⟩ : ∃ v : Int, v = u * 48271 % 2147483647 := ⟨_, rfl⟩
        have hv1 := Int.emod_lt_of_pos (u * 48271) (b := 2147483647) (by decide)
        have hv0 := Int.emod_nonneg (u * 48271) (b := 2147483647) (by decide)
        have h4 : dMul [.int 31, .int (a : Int)] = some (.int (31 * a)) := dMul_s (cm (by decide) (by omega))
        have h5 : dMul [.int (v + 31 * a), .int 69621] = some (.int ((v + 31 * a) * 69621)) := dMul_s (cm (by omega) (by decide))
        obtain ⟨w, hw⟩ : ∃ w : Int, w = (v + 31 * a) * 69621 % 998244353 := ⟨_, rfl⟩
        have hw1 := Int.emod_lt_of_pos ((v + 31 * a) * 69621) (b := 998244353) (by decide)
        have hw0 := Int.emod_nonneg ((v + 31 * a) * 69621) (b := 998244353) (by decide)
        have h6 : dMul [.int v, .int w] = some (.int (v * w)) := dMul_s (cm (by omega) (by omega))
        have h7 : dDiv [.int v, .int 7] = some (.int (v / 7)) := dDiv_s (cdv (by decide) (by decide))
        refine ⟨_, [.int cell, .int many, .int base, .int z, .lst ((r ++ [(v * w + v / 7) % base]).map D.int), .int y, .int a, .int v, .int w], rfl, Or.inl ?_, ⟨_, _, _, _, _, _, rfl, by simp [hl], ?_⟩⟩
        · simp [sIf_s, hy, h1, h2, ← hu, h3, ← hv, h4, h5, ← hw, h6, h7, hmb, hpush]
        · intro x hx
          rcases List.mem_append.mp hx with h | h
          · exact hr x h
          · rw [List.mem_singleton.mp h]; exact hmod _)
  obtain ⟨z, y, k, a, b, r, rfl, hl, hr⟩ := R2
  refine ⟨r, ?_, by simpa using hl, hr⟩
  have h2 : dDiv [.int cell, .int 2] = some (.int (cell / 2)) := dDiv_s (cdv (by decide) (by decide))
  have hit : ∀ ρ : List D, ρ[1]? = some (.int many) → iRng (aCons (eVar 1) aNil) ρ = some ((List.range many).map fun i : Nat => D.int i) := fun ρ h => by
    rw [iRng1_s (k := many) (by simp [h]) (by omega) (by omega), rng0]
    simp
  simp [m__law_row, h2, hit, l1, l2]
theorem entry_ok (x : Int) (h0 : 0 ≤ x) (h1 : x < 4096) : ∃ e : Int, f__law_entry [.int x] = some (.ret (.int e)) ∧ Bn 40 e := by
  unfold f__law_entry
  rw [fn_s (by simp)]
  unfold m__law_entry
  have h8 : dDiv [.int x, .int 8] = some (.int (x / 8)) := dDiv_s (cdv (by decide) (by decide))
  by_cases c1 : x % 8 < 3
  · exact ⟨0, by simp [sIf_s, c1], Bn.zero⟩
  · by_cases c2 : x % 8 < 7
    · refine ⟨x / 8 % 21 - 10, by simp [sIf_s, c1, c2, h8], ?_⟩
      unfold Bn
      omega
    · have hm : dMul [.int (x / 8 - 256), .int 1000000000] = some (.int ((x / 8 - 256) * 1000000000)) := dMul_s (cm (by omega) (by decide))
      refine ⟨(x / 8 - 256) * 1000000000 + x / 8, by simp [sIf_s, c1, c2, h8, hm], ?_⟩
      unfold Bn
      omega
end VP

/-! ## VTab3 -/
namespace VP
open PySem PySem.Spec PyProof.Rows L2 VV
theorem enc0 {h w : Nat} {f : Nat → Nat → Int} : dIdx [encT h w f, .int 0] = some (.int h) := by unfold encT; simp
theorem enc1 {h w : Nat} {f : Nat → Nat → Int} : dIdx [encT h w f, .int 1] = some (.int w) := by unfold encT; simp
theorem enc2 {h w : Nat} {f : Nat → Nat → Int} : dIdx [encT h w f, .int 2] = some (.lst ((List.range h).map fun i => rowD w (f i))) := by unfold encT; simp
/-- a range made of numbers from nought, at place i of the frame, and what is made of it -/
theorem lcR {n i : Nat} {e : Ev} {ρ : List D} (y : Nat → D) (h : ∀ a, a < n → e (ρ.set i (.int (a : Nat))) = some (y a)) :
    lcL (gN i) cYes e ρ ((List.range n).map fun i : Nat => D.int i) = some ((List.range n).map y) :=
  lcL_map (fun i : Nat => D.int i) y _ fun a ha => ⟨_, gN_s, cYes_s, h a (List.mem_range.mp ha)⟩
theorem iR {n : Nat} {e : Ev} {ρ : List D} (h : e ρ = some (.int n)) (hn : n ≤ 1000000) : iRng (aCons e aNil) ρ = some ((List.range n).map fun i : Nat => D.int i) := by
  rw [iRng1_s (k := n) (by simp [h]) (by omega) (by omega), rng0]
  simp
theorem unit_ok (n : Nat) (hn : n ≤ 1000000) : f_unit [.int n] = some (.ret (encT n n fun i j => if i = j then 1 else 0)) := by
  unfold f_unit
  rw [fn_s (by simp)]
  simp only [m_unit, sRet_s, eTup_s, aCons_s, eVar_s, eLc_s]
  have e0 : [D.int n] ++ List.replicate (3 - [D.int n].length) .non = [.int n, .non, .non] := rfl
  rw [e0, iR (n := n) rfl hn]
  have e := lcR (n := n) (i := 1) (ρ := [.int n, .non, .non]) (e := eLc (iRng (aCons (eVar 0) aNil)) (gN 2) cYes (eP dIntC (aCons (eP dEq (aCons (eVar 1) (aCons (eVar 2) aNil))) aNil))) (fun i => rowD n fun j => if i = j then 1 else 0) fun a ha => by
    have e := lcR (n := n) (i := 2) (ρ := [.int n, .int a, .non]) (e := eP dIntC (aCons (eP dEq (aCons (eVar 1) (aCons (eVar 2) aNil))) aNil)) (fun j => .int (if a = j then 1 else 0)) fun b hb => by
      by_cases h : a = b
      · subst h; simp
      · have : ¬ ((a : Int) = b) := by omega
        simp [h, this]
    simp only [eLc_s, List.set_cons_succ, List.set_cons_zero]
    rw [iR (n := n) rfl hn, ob_some, e]
    rfl
  rw [ob_some, e]
  simp [encT]
theorem table_ok (cell : Int) (h w : Nat) (hh : h ≤ 1000) (hw : w ≤ 1000) : ∃ f : Nat → Nat → Int, f__law_table [.int cell, .int h, .int w] = some (.ret (encT h w f)) ∧ ∀ i j, i < h → j < w → Bn 40 (f i j) := by
  have hwh : h * w ≤ 1000 * 1000 := Nat.mul_le_mul hh hw
  obtain ⟨r, hr, hl, hb⟩ := row_ok cell (h * w) 4096 (by omega) (by omega) (by decide)
  have hx : ∀ i j, i < h → j < w → ∃ x, r[i * w + j]? = some x ∧ 0 ≤ x ∧ x < 4096 := by
    intro i j hi hj
    have : i * w + j < h * w := by
      have : (i + 1) * w ≤ h * w := Nat.mul_le_mul_right _ hi
      rw [Nat.succ_mul] at this
      omega
    exact ⟨r[i * w + j], List.getElem?_eq_getElem (by omega), hb _ (List.getElem_mem _)⟩
  have hf : ∀ i j, ∃ e : Int, i < h → j < w → ∃ x, r[i * w + j]? = some x ∧ f__law_entry [.int x] = some (.ret (.int e)) ∧ Bn 40 e := by
    intro i j
    by_cases hij : i < h ∧ j < w
    · obtain ⟨x, h1, h2, h3⟩ := hx i j hij.1 hij.2
      obtain ⟨e, h4, h5⟩ := entry_ok x h2 h3
      exact ⟨e, fun _ _ => ⟨x, h1, h4, h5⟩⟩
    · exact ⟨0, fun a b => absurd ⟨a, b⟩ hij⟩
  refine ⟨fun i j => (hf i j).choose, ?_, fun i j hi hj => ?_⟩
  · generalize hg : (fun i j => (hf i j).choose) = g
    have hgs : ∀ i j, i < h → j < w → ∃ x, r[i * w + j]? = some x ∧ f__law_entry [.int x] = some (.ret (.int (g i j))) := by
      intro i j hi hj
      obtain ⟨x, h1, h2, _⟩ := (hf i j).choose_spec hi hj
      exact ⟨x, h1, by rw [← hg]; exact h2⟩
    unfold f__law_table
    rw [fn_s (by simp)]
    have e0 : [D.int cell, .int h, .int w] ++ List.replicate (6 - [D.int cell, .int h, .int w].length) .non = [.int cell, .int h, .int w, .non, .non, .non] := rfl
    rw [e0]
    have hm : dMul [.int (h : Int), .int (w : Int)] = some (.int ((h * w : Nat) : Int)) := by
      rw [dMul_s (cm (by omega) (by omega))]; simp
    have hr' : f__law_row [.int cell, .int ((h : Int) * w), .int 4096] = some (.ret (.lst (r.map D.int))) := by
      have := hr
      simp only [Int.natCast_mul] at this
      exact this
    have e := lcR (n := h) (i := 4) (ρ := [.int cell, .int h, .int w, .lst (r.map D.int), .non, .non]) (e := eLc (iRng (aCons (eVar 2) aNil)) (gN 5) cYes (eCall f__law_entry (aCons (eChk D.isFlat (eP dIdx (aCons (eVar 3) (aCons (eP dAdd (aCons (eP dMul (aCons (eVar 4) (aCons (eVar 2) aNil))) (aCons (eVar 5) aNil))) aNil)))) aNil))) (fun i => rowD w (g i)) fun a ha => by
      have e := lcR (n := w) (i := 5) (ρ := [.int cell, .int h, .int w, .lst (r.map D.int), .int a, .non]) (e := eCall f__law_entry (aCons (eChk D.isFlat (eP dIdx (aCons (eVar 3) (aCons (eP dAdd (aCons (eP dMul (aCons (eVar 4) (aCons (eVar 2) aNil))) (aCons (eVar 5) aNil))) aNil)))) aNil)) (fun j => .int (g a j)) fun b hb => by
        obtain ⟨x, h1, h2⟩ := hgs a b ha hb
        have hm : dMul [.int (a : Int), .int (w : Int)] = some (.int ((a : Int) * w)) := dMul_s (cm (by omega) (by omega))
        have hat : atI (r.map D.int) ((a : Int) * w + b) = some (.int x) := by
          rw [atI_of (k := a * w + b) (by simp), List.getElem?_map, h1]; rfl
        simp [hm, hat, h2, Option.filter_some]
      simp only [eLc_s, List.set_cons_succ, List.set_cons_zero]
      rw [iR (n := w) rfl (by omega), ob_some, e]
      rfl
    unfold m__law_table
    simp only [sSeq_s, sSet_s, eChk_s, eCall_s, eP_s, aCons_s, eVar_s, eC_s, aNil_s, ob_some, List.getElem?_cons_zero, List.getElem?_cons_succ, hm, Int.natCast_mul, hr', asRet_s, Option.filter_some, kf_lst, flL_ints, if_true, seqO_nx, List.set_cons_succ, List.set_cons_zero, sRet_s, eTup_s, eLc_s]
    rw [iR (n := h) rfl (by omega), ob_some, e]
    simp [encT]
  · exact ((hf i j).choose_spec hi hj).choose_spec.2.2
theorem zipmap {α β : Type} (f g : Nat → α) (k : α × α → β) (n : Nat) : (((List.range n).map f).zip ((List.range n).map g)).map k = (List.range n).map fun i => k (f i, g i) := by
  rw [List.zip_map', List.map_map]
  rfl
/-- pairs of two rows -/
theorem iZ {a : List D → Option (List D)} {ρ : List D} {f g : Nat → D} {n : Nat} (h : a ρ = some [.lst ((List.range n).map f), .lst ((List.range n).map g)]) : iZipL a ρ = some ((List.range n).map fun i => .tup [f i, g i]) := by
  rw [iZip_s h, zipmap]
theorem turned_ok (h w : Nat) (f : Nat → Nat → Int) (hh : h ≤ 1000) (hw : w ≤ 1000) : f_turned [encT h w f] = some (.ret (encT w h fun i j => f j i)) := by
  unfold f_turned
  rw [fn_s (by simp)]
  have e0 : [encT h w f] ++ List.replicate (6 - [encT h w f].length) .non = [encT h w f, .non, .non, .non, .non, .non] := rfl
  rw [e0]
  obtain ⟨R, hR⟩ : ∃ R, R = (List.range h).map fun i => rowD w (f i) := ⟨_, rfl⟩
  have e := lcR (n := w) (i := 4) (ρ := [encT h w f, .int h, .int w, .lst R, .non, .non]) (e := eLc (iRng (aCons (eVar 1) aNil)) (gN 5) cYes (eChk D.isFlat (eP dIdx (aCons (eP dIdx (aCons (eVar 3) (aCons (eVar 5) aNil))) (aCons (eVar 4) aNil))))) (fun i => rowD h fun j => f j i) fun a ha => by
    have e := lcR (n := h) (i := 5) (ρ := [encT h w f, .int h, .int w, .lst R, .int a, .non]) (e := eChk D.isFlat (eP dIdx (aCons (eP dIdx (aCons (eVar 3) (aCons (eVar 5) aNil))) (aCons (eVar 4) aNil)))) (fun j => .int (f j a)) fun b hb => by
      have h1 : atI R (b : Int) = some (rowD w (f b)) := by
        rw [atI_n, hR, List.getElem?_map, List.getElem?_range hb]; rfl
      have h2 : dIdx [rowD w (f b), .int (a : Int)] = some (.int (f b a)) := by
        unfold rowD
        rw [dIdx_l, atI_n, List.getElem?_map, List.getElem?_range ha]; rfl
      simp [h1, h2, Option.filter_some]
    simp only [eLc_s, List.set_cons_succ, List.set_cons_zero]
    rw [iR (n := h) rfl (by omega), ob_some, e]
    rfl
  unfold m_turned
  have g1 : gT (gsCons (gF (gN 1)) (gsCons (gF (gN 2)) (gsCons (gN 3) gsNil))) (encT h w f) [encT h w f, .non, .non, .non, .non, .non] = some [encT h w f, .int h, .int w, .lst R, .non, .non] := by
    subst hR
    conv => lhs; arg 2; unfold encT
    simp
  simp only [sSeq_s, sAsg_s, eVar_s, List.getElem?_cons_zero, ob_some, g1, seqO_nx, sRet_s, eTup_s, eLc_s, aCons_s, List.getElem?_cons_succ, aNil_s]
  rw [iR (n := w) rfl (by omega), ob_some, e]
  simp [encT]
theorem many_ok (c : Int) (h w : Nat) (f : Nat → Nat → Int) {n m : Nat} (hc : Bn n c) (hf : ∀ i j, i < h → j < w → Bn m (f i j)) (hs : n + m ≤ 100000) : f_many_times [.int c, encT h w f] = some (.ret (encT h w fun i j => c * f i j)) := by
  unfold f_many_times
  rw [fn_s (by simp)]
  have e0 : [.int c, encT h w f] ++ List.replicate (4 - [.int c, encT h w f].length) .non = [.int c, encT h w f, .non, .non] := rfl
  rw [e0]
  unfold m_many_times
  have e := lcL_map (t := gN 2) (c := cYes) (ρ := [.int c, encT h w f, .non, .non]) (e := eLc (iLst (eVar 2)) (gF (gN 3)) cYes (eP dMul (aCons (eVar 0) (aCons (eVar 3) aNil)))) (fun i : Nat => rowD w (f i)) (fun i => rowD w fun j => c * f i j) (List.range h) fun a ha => by
    refine ⟨_, gN_s, cYes_s, ?_⟩
    have e := lcL_map (t := gF (gN 3)) (c := cYes) (ρ := [.int c, encT h w f, rowD w (f a), .non]) (e := eP dMul (aCons (eVar 0) (aCons (eVar 3) aNil))) (fun j : Nat => D.int (f a j)) (fun j => .int (c * f a j)) (List.range w) fun b hb => by
      refine ⟨[.int c, encT h w f, rowD w (f a), .int (f a b)], by simp, cYes_s, ?_⟩
      have : dMul [.int c, .int (f a b)] = some (.int (c * f a b)) := dMul_s ((hc).cmul (hf a b (List.mem_range.mp ha) (List.mem_range.mp hb)) (by omega))
      simp [this]
    simp only [eLc_s, iLst_s, eVar_s, List.set_cons_succ, List.set_cons_zero, List.getElem?_cons_succ, List.getElem?_cons_zero, ob_some]
    have ra : asL (rowD w (f a)) = some ((List.range w).map fun j => .int (f a j)) := rfl
    rw [ra, ob_some, e]
    rfl
  simp only [sRet_s, eTup_s, aCons_s, aNil_s, eP_s, eChk_s, eC_s, eLc_s, iLst_s, eVar_s, List.getElem?_cons_succ, List.getElem?_cons_zero, ob_some, enc0, enc1, enc2, Option.filter_some, fl_int, if_true, asL_l]
  rw [e]
  simp [encT]
theorem plus_ok (h w : Nat) (f g : Nat → Nat → Int) : f_plus [encT h w f, encT h w g] = some (.ret (encT h w fun i j => f i j + g i j)) := by
  unfold f_plus
  rw [fn_s (by simp)]
  have e0 : [encT h w f, encT h w g] ++ List.replicate (6 - [encT h w f, encT h w g].length) .non = [encT h w f, encT h w g, .non, .non, .non, .non] := rfl
  rw [e0]
  unfold m_plus
  have c : ∀ f : Nat → Nat → Int, eChk D.isFlat (fun _ => dSl (encT h w f) none (some 2)) [] = some (.tup [.int h, .int w]) := by
    intro f
    unfold encT
    simp only [eChk_s]
    rw [dSl_t (by simp [HT.sIx])]
    simp [cutG, HT.sIx, Option.filter_some]
  have e := lcL_map (t := gT (gsCons (gN 2) (gsCons (gN 3) gsNil))) (c := cYes) (ρ := [encT h w f, encT h w g, .non, .non, .non, .non]) (e := eLc (iZipL (aCons (eVar 2) (aCons (eVar 3) aNil))) (gT (gsCons (gF (gN 4)) (gsCons (gF (gN 5)) gsNil))) cYes (eP dAdd (aCons (eVar 4) (aCons (eVar 5) aNil)))) (fun i : Nat => D.tup [rowD w (f i), rowD w (g i)]) (fun i => rowD w fun j => f i j + g i j) (List.range h) fun a ha => by
    refine ⟨[encT h w f, encT h w g, rowD w (f a), rowD w (g a), .non, .non], by simp, cYes_s, ?_⟩
    have e := lcL_map (t := gT (gsCons (gF (gN 4)) (gsCons (gF (gN 5)) gsNil))) (c := cYes) (ρ := [encT h w f, encT h w g, rowD w (f a), rowD w (g a), .non, .non]) (e := eP dAdd (aCons (eVar 4) (aCons (eVar 5) aNil))) (fun j : Nat => D.tup [.int (f a j), .int (g a j)]) (fun j => .int (f a j + g a j)) (List.range w) fun b hb => by
      exact ⟨[encT h w f, encT h w g, rowD w (f a), rowD w (g a), .int (f a b), .int (g a b)], by simp, cYes_s, by simp⟩
    rw [eLc_s, iZ (f := fun j => .int (f a j)) (g := fun j => .int (g a j)) (n := w) (by simp [rowD]), ob_some, e]
    rfl
  have ht : tOf (eP dNe (aCons (eChk D.isFlat (eSl (eChk D.isTup (eVar 0)) oNone (oSome (eC (.int 2))))) (aCons (eChk D.isFlat (eSl (eChk D.isTup (eVar 1)) oNone (oSome (eC (.int 2))))) aNil))) [encT h w f, encT h w g, .non, .non, .non, .non] = some false := by
    have c1 := c f
    have c2 := c g
    have ck : ∀ f : Nat → Nat → Int, (some (encT h w f)).filter D.isTup = some (encT h w f) := fun f => rfl
    simp only [eChk_s] at c1 c2
    simp only [tOf_s, eP_s, aCons_s, aNil_s, eChk_s, eSl_s, oNone_s, oSome_s, eC_s, eVar_s, List.getElem?_cons_succ, List.getElem?_cons_zero, ob_some, ck, c1, c2]
    rw [dNe_same (n := 1) (Ok.tup fun a ha => by
      simp only [List.mem_cons, List.not_mem_nil, or_false] at ha
      rcases ha with rfl | rfl <;> exact Ok.int) (by decide)]
    rfl
  rw [sSeq_s, sIf_f ht, sNil_s, seqO_nx]
  simp only [sRet_s, eTup_s, aCons_s, aNil_s, eP_s, eChk_s, eC_s, eLc_s, eVar_s, List.getElem?_cons_succ, List.getElem?_cons_zero, ob_some, enc0, enc1, Option.filter_some, fl_int, if_true]
  rw [iZ (f := fun i => rowD w (f i)) (g := fun i => rowD w (g i)) (n := h) (by simp [enc2]), ob_some, e]
  simp [encT]
end VP

/-! ## VTab4 -/
namespace VP
open PySem PySem.Spec PyProof.Rows L2 VV
theorem rng_at {n i a : Nat} (h : (List.range n)[i]? = some a) : i < n ∧ a = i := by
  have h1 := (List.getElem?_eq_some_iff.mp h).1
  have h2 := (List.getElem?_eq_some_iff.mp h).2
  exact ⟨by simpa using h1, by simpa using h2.symm⟩
theorem rep_row (d : Nat) (hd : d ≤ 1000000) : dRep [.lst [.int 0], .int d] = some (rowD d fun _ => 0) := by
  have row : ∀ w : Nat, rowD w (fun _ => 0) = .lst (List.replicate w [D.int 0]).flatten := by
    intro w
    unfold rowD
    rw [List.map_const', List.length_range]
    congr 1
    induction w with
    | zero => rfl
    | succ w ih => rw [List.replicate_succ, List.replicate_succ, List.flatten_cons, ih]; rfl
  unfold dRep
  dsimp only
  rw [if_pos ⟨by simp, by omega, by omega, by simp; omega⟩, row, Int.toNat_natCast]
abbrev mulE (f g : Nat → Nat → Int) (w : Nat) : Nat → Nat → Int := fun i j => S w fun k => f i k * g k j
theorem product_ok (h w d : Nat) (f g : Nat → Nat → Int) {n m : Nat} (hf : ∀ i j, i < h → j < w → Bn n (f i j)) (hg : ∀ i j, i < w → j < d → Bn m (g i j)) (hs : n + m ≤ 100000) (hh : h ≤ 1000) (hw : w ≤ 1000) (hd : d ≤ 1000) :
    f_product [encT h w f, encT w d g] = some (.ret (encT h d (mulE f g w))) := by
  unfold f_product
  rw [fn_s (by simp)]
  obtain ⟨A, hA⟩ : ∃ A, A = encT h w f := ⟨_, rfl⟩
  obtain ⟨B, hB⟩ : ∃ B, B = encT w d g := ⟨_, rfl⟩
  have A0 : dIdx [A, .int 0] = some (.int h) := by rw [hA]; exact enc0
  have A1 : dIdx [A, .int 1] = some (.int w) := by rw [hA]; exact enc1
  have A2 : dIdx [A, .int 2] = some (.lst ((List.range h).map fun i => rowD w (f i))) := by rw [hA]; exact enc2
  have B0 : dIdx [B, .int 0] = some (.int w) := by rw [hB]; exact enc0
  have B1 : dIdx [B, .int 1] = some (.int d) := by rw [hB]; exact enc1
  have B2 : dIdx [B, .int 2] = some (.lst ((List.range w).map fun i => rowD d (g i))) := by rw [hB]; exact enc2
  rw [← hA, ← hB]
  have e0 : [A, B] ++ List.replicate (9 - [A, B].length) .non = [A, B, .non, .non, .non, .non, .non, .non, .non] := rfl
  rw [e0]
  unfold m_product
  have ht : ∀ r, tOf (eP dNe (aCons (eChk D.isFlat (eP dIdx (aCons (eVar 0) (aCons (eC (.int 1)) aNil)))) (aCons (eChk D.isFlat (eP dIdx (aCons (eVar 1) (aCons (eC (.int 0)) aNil)))) aNil))) (A :: B :: r) = some false := by
    intro r
    simp [A1, B0, Option.filter_some]
  rw [sSeq_s, sIf_f (ht _), sNil_s, seqO_nx]
  have turn : ∀ (i : Nat) (L : List D) (x4 x5 x6 x7 x8 : D), i < h → L.length = i → ∃ y4 y5 y6 y7 y8, (sSeq (sSet 4 (eP dRep (aCons (eLst (aCons (eC (.int 0)) aNil)) (aCons (eChk D.isFlat (eP dIdx (aCons (eVar 1) (aCons (eC (.int 1)) aNil)))) aNil))))
  (sSeq (sFor (iZipL (aCons (eVar 3) (aCons (eP dIdx (aCons (eVar 1) (aCons (eC (.int 2)) aNil))) aNil))) (gT (gsCons (gF (gN 5)) (gsCons (gN 6) gsNil)))
  (sIf (tOf (eP dNe (aCons (eVar 5) (aCons (eC (.int 0)) aNil))))
  (sSet 4 (eLc (iZipL (aCons (eVar 4) (aCons (eVar 6) aNil))) (gT (gsCons (gF (gN 7)) (gsCons (gF (gN 8)) gsNil))) cYes (eP dAdd (aCons (eVar 7) (aCons (eP dMul (aCons (eVar 5) (aCons (eVar 8) aNil))) aNil)))))
  sNil))
  (sMut dPush 2 (eVar 4)))) [A, B, .lst L, rowD w (f i), x4, x5, x6, x7, x8] = some (.nx [A, B, .lst (L ++ [rowD d (mulE f g w i)]), rowD w (f i), y4, y5, y6, y7, y8]) := by
    intro i L x4 x5 x6 x7 x8 hi hL
    obtain ⟨ρ1, l1, R1⟩ := forL_inv (t := gT (gsCons (gF (gN 5)) (gsCons (gN 6) gsNil))) (b := (sIf (tOf (eP dNe (aCons (eVar 5) (aCons (eC (.int 0)) aNil))))
      (sSet 4 (eLc (iZipL (aCons (eVar 4) (aCons (eVar 6) aNil))) (gT (gsCons (gF (gN 7)) (gsCons (gF (gN 8)) gsNil))) cYes (eP dAdd (aCons (eVar 7) (aCons (eP dMul (aCons (eVar 5) (aCons (eVar 8) aNil))) aNil)))))
      sNil)) (fun k : Nat => D.tup [.int (f i k), rowD d (g k)]) (List.range w)
      (fun n ρ => ∃ y5 y6 y7 y8, ρ = [A, B, .lst L, rowD w (f i), rowD d (fun j => S n fun k => f i k * g k j), y5, y6, y7, y8])
      [A, B, .lst L, rowD w (f i), rowD d (fun _ => 0), x5, x6, x7, x8] ⟨_, _, _, _, rfl⟩
      (fun k a ρ ha hR => by
        obtain ⟨hk, rfl⟩ := rng_at ha
        obtain ⟨y5, y6, y7, y8, rfl⟩ := hR
        refine ⟨[A, B, .lst L, rowD w (f i), rowD d (fun j => S a fun k => f i k * g k j), .int (f i a), rowD d (g a), y7, y8], ?_⟩
        refine ⟨[A, B, .lst L, rowD w (f i), rowD d (fun j => S (a + 1) fun k => f i k * g k j), .int (f i a), rowD d (g a), y7, y8], by simp, Or.inl ?_, ⟨_, _, _, _, rfl⟩⟩
        by_cases hz : f i a = 0
        · have hc : tOf (eP dNe (aCons (eVar 5) (aCons (eC (.int 0)) aNil))) [A, B, .lst L, rowD w (f i), rowD d (fun j => S a fun k => f i k * g k j), .int (f i a), rowD d (g a), y7, y8] = some false := by simp [hz]
          rw [sIf_f hc, sNil_s]
          have : rowD d (fun j => S a fun k => f i k * g k j) = rowD d (fun j => S (a + 1) fun k => f i k * g k j) := rowD_congr fun j _ => by
            show _ = S a _ + f i a * g a j
            rw [hz, Int.zero_mul, Int.add_zero]
          rw [this]
        · have hc : tOf (eP dNe (aCons (eVar 5) (aCons (eC (.int 0)) aNil))) [A, B, .lst L, rowD w (f i), rowD d (fun j => S a fun k => f i k * g k j), .int (f i a), rowD d (g a), y7, y8] = some true := by simp [hz]
          rw [sIf_t hc]
          have e := lcL_map (t := gT (gsCons (gF (gN 7)) (gsCons (gF (gN 8)) gsNil))) (c := cYes) (ρ := [A, B, .lst L, rowD w (f i), rowD d (fun j => S a fun k => f i k * g k j), .int (f i a), rowD d (g a), y7, y8]) (e := eP dAdd (aCons (eVar 7) (aCons (eP dMul (aCons (eVar 5) (aCons (eVar 8) aNil))) aNil))) (fun j : Nat => D.tup [.int (S a fun k => f i k * g k j), .int (g a j)]) (fun j => .int (S (a + 1) fun k => f i k * g k j)) (List.range d) fun b hb => by
            refine ⟨[A, B, .lst L, rowD w (f i), rowD d (fun j => S a fun k => f i k * g k j), .int (f i a), rowD d (g a), .int (S a fun k => f i k * g k b), .int (g a b)], by simp, cYes_s, ?_⟩
            have : dMul [.int (f i a), .int (g a b)] = some (.int (f i a * g a b)) := dMul_s ((hf i a hi hk).cmul (hg a b hk (List.mem_range.mp hb)) (by omega))
            simp [this, S]
          rw [sSet_s, eLc_s, iZ (f := fun j => .int (S a fun k => f i k * g k j)) (g := fun j => .int (g a j)) (n := d) (by simp [rowD]), ob_some, e]
          rfl)
    obtain ⟨y5, y6, y7, y8, rfl⟩ := R1
    refine ⟨rowD d (fun j => S w fun k => f i k * g k j), y5, y6, y7, y8, ?_⟩
    have hset : sSet 4 (eP dRep (aCons (eLst (aCons (eC (.int 0)) aNil)) (aCons (eChk D.isFlat (eP dIdx (aCons (eVar 1) (aCons (eC (.int 1)) aNil)))) aNil))) [A, B, .lst L, rowD w (f i), x4, x5, x6, x7, x8] = some (.nx [A, B, .lst L, rowD w (f i), rowD d (fun _ => 0), x5, x6, x7, x8]) := by
      simp [B1, Option.filter_some, rep_row d (by omega)]
    have hz : iZipL (aCons (eVar 3) (aCons (eP dIdx (aCons (eVar 1) (aCons (eC (.int 2)) aNil))) aNil)) [A, B, .lst L, rowD w (f i), rowD d (fun _ => 0), x5, x6, x7, x8] = some ((List.range w).map fun k => D.tup [.int (f i k), rowD d (g k)]) :=
      iZ (f := fun k => .int (f i k)) (g := fun k => rowD d (g k)) (n := w) (by simp [B2]; rfl)
    rw [sSeq_s, hset, seqO_nx, sSeq_s, sFor_s, hz, ob_some, l1, seqO_nx]
    rw [List.length_range]
    simp [dPush_s (show L.length < 1000000 by omega)]
  obtain ⟨ρ1, l1, R1⟩ := forL_inv (t := gN 3) (b := (sSeq (sSet 4 (eP dRep (aCons (eLst (aCons (eC (.int 0)) aNil)) (aCons (eChk D.isFlat (eP dIdx (aCons (eVar 1) (aCons (eC (.int 1)) aNil)))) aNil))))
  (sSeq (sFor (iZipL (aCons (eVar 3) (aCons (eP dIdx (aCons (eVar 1) (aCons (eC (.int 2)) aNil))) aNil))) (gT (gsCons (gF (gN 5)) (gsCons (gN 6) gsNil)))
  (sIf (tOf (eP dNe (aCons (eVar 5) (aCons (eC (.int 0)) aNil))))
  (sSet 4 (eLc (iZipL (aCons (eVar 4) (aCons (eVar 6) aNil))) (gT (gsCons (gF (gN 7)) (gsCons (gF (gN 8)) gsNil))) cYes (eP dAdd (aCons (eVar 7) (aCons (eP dMul (aCons (eVar 5) (aCons (eVar 8) aNil))) aNil)))))
  sNil))
  (sMut dPush 2 (eVar 4))))) (fun i : Nat => rowD w (f i)) (List.range h)
    (fun n ρ => ∃ y3 y4 y5 y6 y7 y8, ρ = [A, B, .lst ((List.range n).map fun i => rowD d (mulE f g w i)), y3, y4, y5, y6, y7, y8])
    [A, B, .lst [], .non, .non, .non, .non, .non, .non] ⟨_, _, _, _, _, _, rfl⟩
    (fun i a ρ ha hR => by
      obtain ⟨hi, rfl⟩ := rng_at ha
      obtain ⟨y3, y4, y5, y6, y7, y8, rfl⟩ := hR
      obtain ⟨z4, z5, z6, z7, z8, hz⟩ := turn a ((List.range a).map fun i => rowD d (mulE f g w i)) y4 y5 y6 y7 y8 hi (by simp)
      refine ⟨_, _, rfl, Or.inl hz, ⟨rowD w (f a), z4, z5, z6, z7, z8, ?_⟩⟩
      have : (List.range (a + 1)).map (fun i => rowD d (mulE f g w i)) = (List.range a).map (fun i => rowD d (mulE f g w i)) ++ [rowD d (mulE f g w a)] := by
        rw [List.range_succ, List.map_append]
        rfl
      rw [this])
  obtain ⟨y3, y4, y5, y6, y7, y8, rfl⟩ := R1
  have hs2 : sSet 2 (eLst aNil) [A, B, .non, .non, .non, .non, .non, .non, .non] = some (.nx [A, B, .lst [], .non, .non, .non, .non, .non, .non]) := by simp
  have hit : iLst (eP dIdx (aCons (eVar 0) (aCons (eC (.int 2)) aNil))) [A, B, .lst [], .non, .non, .non, .non, .non, .non] = some ((List.range h).map fun i => rowD w (f i)) := by simp [A2]
  rw [sSeq_s, hs2, seqO_nx, sSeq_s, sFor_s, hit, ob_some, l1, seqO_nx, List.length_range]
  simp [A0, B1, Option.filter_some, encT]
end VP

/-! ## VTab5 -/
namespace VP
open PySem PySem.Spec PyProof.Rows L2 VV
/-- the same table twice is no difference -/
theorem ne_enc {h w : Nat} {f g : Nat → Nat → Int} (e : ∀ i j, i < h → j < w → f i j = g i j) : dNe [encT h w f, encT h w g] = some (.bl false) := by
  rw [encT_congr e]
  exact dNe_same ok_encT (by decide)
end VP

/-! ## VExc -/
namespace VV
open PySem PySem.Spec PyProof.Rows L2

/-! ### own exception classes -/
/-- a class over ValueError, without an __init__ of its own -/
structure ExF (K : PySem.W.Frag) (C : Addr) : Prop where
  q : PySem.W.excIn K C He.veBase "ValueError.__new__" = true
  kp : PySem.W.keepIn K (.ref C) = true
  sb : PySem.W.subIn K (.ref C) (.type "BaseException") = some true
  tp : PySem.W.typeIn K (.ref C) = some (.type "type")
def sRaise (c : Str) : Sv := fun ρ => some (.ex c ρ)
section
variable {X : Cx} {W : L2.WX} {sc : Sc} {Γ Γ' : List Kd} {pos : Pos}
end

/-! ### defs that may raise -/
section
variable {P : Program} {w : World} {K : PySem.W.Frag} {mg : Str → Option Value} {base : Heap} {x qual : Str} {params : Arguments} {body : List Stmt} {scope : Scope} {f : Addr} {fd : FuncData}
end

/-! ### expressions that may raise, as a statement's own -/
section
variable {X : Cx} {W : L2.WX} {LL : List Nat} {Γ : List Kd} {pos p : Pos} {k : Nat} {ps : List Str} {sem : List D → Option Res} {R : Rm} {x : Str}
end

/-! ### statements of such expressions -/
section
variable {X : Cx} {W : L2.WX} {sc : Sc} {Γ Γ' : List Kd} {pos : Pos}
end
end VV

/-! ## VExc2 -/
namespace VV
open PySem PySem.Spec PyProof.Rows L2

/-! ### the program's exception classes -/
def six : List Str := ["NoTable", "NoPlace", "NoMove", "NoWord", "NoText", "TooMany"]
/-- whether an exception of the class c is one of the class y -/
def subX (c y : Str) : Option Bool := if y = c ∨ y = "CordError" ∨ y = "ValueError" then some true else if y ∈ six then some false else none
structure ExW (K : PySem.W.Frag) (mg : Str → Option Value) (L : List Str) : Prop where
  i : ∀ c C, c ∈ L → mg c = some (.ref C) → ExcC K C
  k : ∀ c C y u b, c ∈ L → mg c = some (.ref C) → subX c y = some b → (mg y = some u ∨ (mg y = none ∧ bootBuiltins y = some u)) → PySem.W.kitOne K (.ref C) u = some b
  m : ∀ c C y D b, c ∈ L → mg c = some (.ref C) → subX c y = some b → mg y = some (.ref D) → PySem.W.exmOne K (.ref C) (.ref D) = some b

/-! ### isinstance(e, X), isinstance(e, (X, ..)) of the exception that is handled -/

section
variable {X : Cx} {L : List Str} {LL : List Nat} {Γ : List Kd} {a : Addr} {oe : Obj} {c : Str} {C : Addr} {pos p q tp : Pos}
end
end VV

/-! ## VExc3 -/
namespace VV
open PySem PySem.Spec PyProof.Rows L2

/-! ### try: .. except Y as e: .. , what is caught is answered -/
section
variable {X : Cx} {W : L2.WX} {sc : Sc} {Γ Γ' : List Kd} {pos pos' np : Pos} {L : List Str}
end

/-! ### defs of an exception, asked in a suite -/
section
variable {P : Program} {w : World} {K : PySem.W.Frag} {mg : Str → Option Value} {base : Heap} {x qual px : Str} {params : Arguments} {body : List Stmt} {scope : Scope} {f : Addr} {fd : FuncData} {L : List Str}
end
section
variable {X : Cx} {L : List Str} {LL : List Nat} {Γ : List Kd} {a : Addr} {oe : Obj} {c : Str} {C : Addr} {pos p tp : Pos}
end

end VV

/-! ## VHead -/
namespace VV
open PySem PySem.Spec PyProof.Rows L2 He

/-! ### a head with exception classes -/
section
variable {K : PySem.W.Frag} {h : Heap} {mg : Str → Option Value} {L : List Str}
end
/-! ### the Hook, with a further look at the written part -/
def obsV (ck : PySem.W.Frag → Bool) (fa : List Fa) (fn : List DefD) (K : PySem.W.Frag) : AlD := ((obsD fa fn K).1 && ck K, (obsD fa fn K).2)
def SaysV (ck : PySem.W.Frag → Bool) (fa : List Fa) (fn : List DefD) (K : PySem.W.Frag) : Prop := obsV ck fa fn K = valD fn
theorem SaysV.d {ck : PySem.W.Frag → Bool} {fa : List Fa} {fn : List DefD} {K : PySem.W.Frag} (c : SaysV ck fa fn K) : SaysD fa fn K ∧ ck K = true := by
  unfold SaysV obsV valD at c
  have c1 := congrArg Prod.fst c
  have c2 := congrArg Prod.snd c
  dsimp only at c1 c2
  rw [Bool.and_eq_true] at c1
  exact ⟨Prod.ext c1.1 c2, c1.2⟩
end VV

/-! ## VMore -/
namespace VV
open PySem PySem.Spec PyProof.Rows L2

/-! ### x in xs, xs a list or a tuple of data -/
section
variable {X : Cx}
end
section
variable {X : Cx} {LL : List Nat} {Γ : List Kd} {pos : Pos} {a b : Expr} {sa sb : Ev} {ma mb : Md}
end

/-! ### list(range(n)) -/
section
variable {X : Cx} {LL : List Nat} {Γ : List Kd} {pos p p2 q : Pos} {a b : Expr} {sa sb : Ev} {ma mb : Md}
end

/-! ### sorted(xs), xs a list of data -/
section
variable {X : Cx} {LL : List Nat} {Γ : List Kd} {pos p : Pos} {a : Expr} {sa : Ev} {ma : Md}
end
end VV

/-! ## VSet -/
/-! set(xs) of a list of whole numbers: its members, its order -/
namespace VV
open PySem PySem.Spec PyProof.Rows L2
section
variable {P : Program} {w : World} {A : Around} {E : Value → Shared → Prop} {s : Shared}
end

/-! ### sorted, without the same twice -/
section
variable {X : Cx}
end
section
variable {X : Cx} {LL : List Nat} {Γ : List Kd} {pos p p2 q : Pos} {a : Expr} {sa : Ev} {ma : Md}
end
end VV

/-! ## VMut2 -/
/-! more changes of one object: extend, pop within append, two stores, d.setdefault(k, []).append(v); sorted(d), t * n -/
namespace VV
open PySem PySem.Spec PyProof.Rows L2


/-! ### x.extend(a list of flat things) -/
section
variable {X : Cx} {W : L2.WX} {sc : Sc} {Γ : List Kd} {pos : Pos}

/-! ### x.append(y.pop(e)), of flat things -/

/-! ### x[a], y[b] = a pair of flat things -/

/-! ### t * n, sorted(d) -/
end
section
variable {X : Cx} {LL : List Nat} {Γ : List Kd} {pos p : Pos} {a b : Expr} {sa sb : Ev} {ma mb : Md}
end
end VV

/-! ## VMul -/
/-! t * n of a tuple of flat things, n from 0 on -/
namespace VV
open PySem PySem.Spec PyProof.Rows L2
section
variable {X : Cx}
variable {LL : List Nat} {Γ : List Kd} {pos p : Pos} {a b : Expr} {sa sb : Ev} {ma mb : Md}
end
end VV

/-! ## VSetApp -/
/-! d.setdefault(k, []).append(v), v flat -/
namespace VV
open PySem PySem.Spec PyProof.Rows L2
def killL (ns : List Nat) (Γ : List Kd) : List Kd := Γ.map fun k => if ns.any (fun n => k.has n) then .dead else k
section
variable {mg : Mg} {P : Fm} {g : Addr → Nat} {H : Hp}
end
section
variable {X : Cx} {W : L2.WX} {sc : Sc} {Γ : List Kd} {pos : Pos}
end
end VV

/-! ## VLenD -/
/-! len of a dict with keys that are ints or texts -/
namespace VV
open PySem PySem.Spec PyProof.Rows L2
section
variable {X : Cx}
end
end VV

/-! ## VZip -/
/-! zip(a list, a tuple of flat things) -/
namespace VV
open PySem PySem.Spec PyProof.Rows L2
section
variable {X : Cx} {LL : List Nat} {Γ : List Kd} {pos p tpos : Pos} {a b : Expr} {sa sb : Ev} {ma : Md} {elts : List Expr} {kk : Nat}
end
end VV

/-! ## VDVals -/
/-! [d[k] for k in sorted(d)]: the values of a dict, each once -/
namespace VV
open PySem PySem.Spec PyProof.Rows L2
/-- key, tree, value, nodes -/
structure Row where
  k : Int
  d : D
  v : V
  f : List Addr
section
variable {mg : Mg} {H : Hp}
end
section
variable {X : Cx} {LL : List Nat} {Γ Γ1 : List Kd} {pos p : Pos}
end
end VV

/-! ## VEach -/
/-! for x in l: x.append(c) (lists that are unlike objects); l[i].clear() -/
namespace VV
open PySem PySem.Spec PyProof.Rows L2
section
variable {mg : Mg} {H : Hp}
/-- the list that stands at a place, changed -/
theorem repL_inner : ∀ {rows : List D} {vs : List V} {f : List Addr} {t : Nat} {r : List D}, RepL mg H rows vs f → rows[t]? = some (.lst r) → f.Nodup →
    ∃ b us fr, vs[t]? = some (.ref b) ∧ H b = some (.lst us) ∧ RepL mg H r us fr ∧ b ∈ f ∧ b ∉ fr ∧ ∀ us' r' fr', fr'.Sublist fr → RepL mg (upd H b (.lst us')) r' us' fr' → ∃ f', f'.Sublist f ∧ RepL mg (upd H b (.lst us')) (rows.set t (.lst r')) vs f'
  | [], _, _, _, _, _, e, _ => by simp at e
  | d0 :: rows, _, _, 0, r, h, e, hf => by
    simp only [RepL] at h
    obtain ⟨v, r0, f1, f2, rfl, h1, h2, rfl⟩ := h
    simp at e; subst e
    obtain ⟨nf1, nf2, dj⟩ := List.nodup_append.mp hf
    simp only [Rep] at h1
    obtain ⟨b, us, fr, rfl, hb, rr, rfl⟩ := h1
    obtain ⟨hbf, nfr⟩ := List.nodup_cons.mp nf1
    have hb2 : b ∉ f2 := fun hm => dj b List.mem_cons_self b hm rfl
    refine ⟨b, us, fr, rfl, hb, rr, List.mem_append_left _ List.mem_cons_self, hbf, fun us' r' fr' hs rr' => ⟨(b :: fr') ++ f2, (hs.cons₂ b).append (List.Sublist.refl _), ?_⟩⟩
    simp only [List.set_cons_zero, RepL]
    refine ⟨.ref b, r0, b :: fr', f2, rfl, ?_, repL_upd h2 hb2 hb trivial, rfl⟩
    simp only [Rep]
    exact ⟨b, us', fr', rfl, upd_same, rr', rfl⟩
  | d0 :: rows, _, _, t + 1, r, h, e, hf => by
    simp only [RepL] at h
    obtain ⟨v, r0, f1, f2, rfl, h1, h2, rfl⟩ := h
    obtain ⟨nf1, nf2, dj⟩ := List.nodup_append.mp hf
    obtain ⟨b, us, fr, e1, hb, rr, hm, hbf, hh⟩ := repL_inner (t := t) h2 (by simpa using e) nf2
    have hb1 : b ∉ f1 := fun hm1 => dj b hm1 b hm rfl
    refine ⟨b, us, fr, by simpa using e1, hb, rr, List.mem_append_right _ hm, hbf, fun us' r' fr' hs rr' => ?_⟩
    obtain ⟨f', s', k⟩ := hh us' r' fr' hs rr'
    refine ⟨f1 ++ f', (List.Sublist.refl _).append s', ?_⟩
    simp only [List.set_cons_succ, RepL]
    exact ⟨v, r0, f1, f', rfl, rep_upd h1 hb1 hb trivial, k, rfl⟩
end
section
variable {X : Cx} {W : L2.WX} {sc : Sc} {Γ : List Kd} {pos : Pos}
end
end VV

/-! ## VAnyH -/
/-! any(list) while an exception is handled -/
namespace VV
open PySem PySem.Spec PyProof.Rows L2 HotX
section
variable {prog : Program} {w : World} {A : Around} {E : Value → Shared → Prop} {s : Shared}
end
section
variable {X : Cx}
end
end VV

/-! ## VCompK -/
/-! [e for k in d if c], d the dict in a slot -/
namespace VV
open PySem PySem.Spec PyProof.Rows L2
section
variable {X : Cx} {LL : List Nat} {Γ Γ1 : List Kd} {pos : Pos}
end
end VV

/-! ## VBits -/
/-! 1 << n, n >> k, n & 1; a list extended by a tuple; a number's name in the module -/
namespace VV
open PySem PySem.Spec PyProof.Rows L2
def CNn (_ j : Int) : Prop := 0 ≤ j
instance : DecidableRel CNn := fun _ j => inferInstanceAs (Decidable (0 ≤ j))
section
variable {X : Cx} {LL : List Nat} {Γ : List Kd} {pos : Pos} {a b : Expr} {sa sb : Ev} {ma mb : Md}
end
/-! ### x.extend(t) -/

section
variable {X : Cx} {W : L2.WX} {sc : Sc} {Γ : List Kd} {pos : Pos}
end
end VV

/-! ## VSumT -/
/-! sum(tuple of whole numbers) -/
namespace VV
open PySem PySem.Spec PyProof.Rows L2
section
variable {prog : Program} {w : World} {A : Around} {E : Value → Shared → Prop} {s : Shared} {l : Addr} {its : List Value} {ns : List Int} {Q : Value → Shared → Prop}
end
section
variable {X : Cx}
end
end VV

/-! ## VText -/
/-! texts: str(whole number), text + text, sep.join(list of texts) -/
namespace VV
open PySem PySem.Spec PyProof.Rows L2
section
variable {X : Cx} {LL : List Nat} {Γ : List Kd} {pos apos : Pos} {a b : Expr} {sa sb : Ev} {ma mb : Md}
end
end VV

/-! ## VSortT -/
/-! sorted(a dict whose keys are tuples of whole numbers and texts) -/
namespace VV
open PySem PySem.Spec PyProof.Rows L2

section
variable {X : Cx} {LL : List Nat} {Γ : List Kd} {pos p : Pos} {a : Expr} {sa : Ev} {ma : Md}
end
end VV

/-! ## VEqT -/
/-! == of dicts whose keys are tuples; a dict == {} -/
namespace VV
open PySem PySem.Spec PyProof.Rows L2
section
variable {prog : Program} {w : World} {K : Type} [DecidableEq K] {knd : HeapKind prog w K} {A : Around} {E : Value → Shared → Prop} {s : Shared}
end
section
variable {X : Cx} {pins : List (Addr × Obj)} {σ : L2.St} {H : Hp} {s : Shared}
end

/-! ### as trees -/
section
variable {mg : Mg} {H : Hp}
end
section
variable {X : Cx} {LL : List Nat} {Γ : List Kd} {pos : Pos} {a b : Expr} {sa sb : Ev} {ma mb : Md}
end
end VV

/-! ## VKti -/
/-! tuples of whole numbers that are known to the object: made by tuple(list), count, index, len, sum, in, slices, zip -/
namespace VV
open PySem PySem.Spec PyProof.Rows L2
section
variable {X : Cx} {LL : List Nat} {Γ : List Kd} {pos p p2 apos : Pos} {a b e : Expr} {sa sb se : Ev} {ma mb m : Md} {lo hi : Option Expr} {sl sh : List D → Option (Option Int)}
end
end VV

/-! ## VNk -/
/-! dicts whose keys are tuples of whole numbers, truths and such tuples: at the level of tracked heaps -/
namespace VV
open PySem PySem.Spec PyProof.Rows L2
section
variable {X : Cx} {pins : List (Addr × Obj)} {σ : L2.St} {H : Hp} {s : Shared}
variable {A : Around} {E : Value → Shared → Prop} {a b : Addr} {xs : List Ne} {k : NestedKey} {v : V}
/-! ### rules -/
end
section
variable {X : Cx} {o i e value : Expr} {pos pos' : Pos} {td ty tv tx : TE}
end
end VV

/-! ## VNkD -/
/-! dicts of nested keys, as trees -/
namespace VV
open PySem PySem.Spec PyProof.Rows L2
section
variable {X : Cx} {LL : List Nat} {Γ : List Kd} {pos apos cpos : Pos} {a b c : Expr} {sa sb s2 : Ev} {ma mb : Md}
end
section
variable {X : Cx} {W : L2.WX} {sc : Sc} {Γ : List Kd} {pos : Pos}
end
end VV

/-! ## VNkF -/
/-! the walk over a dict of nested keys -/
namespace VV
open PySem PySem.Spec PyProof.Rows L2
section
variable {X : Cx} {pins : List (Addr × Obj)} {σ : L2.St} {H : Hp} {s : Shared} {a : Addr} {o : Obj} {xs : List Ne}
end
section
variable {P : Program} {w : World} {K : PySem.W.Frag} {tg : Expr} {a : Addr} {o : Obj} {es : Array DictEntry} {ep : Nat}
end
section
variable {mg : Mg} {P : Fm} {LL : List Nat} {g : Addr → Nat} {H : Hp} {a : Addr} {u : HO} {od : Obj}
end
section
variable {X : Cx} {W : L2.WX} {sc : Sc} {Γ Γ1 : List Kd} {pos : Pos}
end
end VV

/-! ## VPar -/
/-! a, b = x, y: two local names, flat things -/
namespace VV
open PySem PySem.Spec PyProof.Rows L2
section
variable {X : Cx} {W : L2.WX} {sc : Sc} {Γ : List Kd} {pos : Pos}
end
end VV

/-! ## VSortB -/
/-! sorted(a dict of whole keys), of any number of keys -/
namespace VV
open PySem PySem.Spec PyProof.Rows L2
section
variable {X : Cx} {LL : List Nat} {Γ : List Kd} {pos p : Pos} {a : Expr} {sa : Ev} {ma : Md}
end
end VV

/-! ## VCompN -/
/-! [e for k in d if c], d the dict of nested keys in a slot -/
namespace VV
open PySem PySem.Spec PyProof.Rows L2
section
variable {X : Cx} {LL : List Nat} {Γ Γ1 : List Kd} {pos : Pos}
end
end VV

/-! ## VCst -/
/-! what is never reached; the module's tuples of texts; l.count(x), l.index(x) of data; l.clear() -/
namespace VV
open PySem PySem.Spec PyProof.Rows L2
/-! ### never reached -/
section
variable {X : Cx} {W : L2.WX} {sc : Sc} {LL : List Nat} {Γ Γ' : List Kd}
end
/-! ### the module's tuples of texts -/
section
variable {X : Cx} {LL : List Nat} {Γ : List Kd} {pos p : Pos} {a : Expr} {sa : Ev} {ma : Md} {x : Str} {L : List Str}
end
/-! ### l.count(x), l.index(x) -/
section
variable {X : Cx}
end
section
variable {X : Cx} {LL : List Nat} {Γ : List Kd} {pos ap : Pos} {a b : Expr} {sa sb : Ev} {ma mb : Md}
end
/-! ### l.clear() -/
section
variable {X : Cx} {W : L2.WX} {sc : Sc} {Γ : List Kd} {pos : Pos}
end
end VV

/-! ### the head, with such tuples -/
namespace VV
open PySem PySem.Spec PyProof.Rows L2 He
section
variable {K : PySem.W.Frag} {h : Heap} {mg : Str → Option Value} {L : List Str} {ts : List (Str × List Str)}
end
end VV

/-! ## VEqN -/
/-! == and != of dicts of nested keys that are alike; slices and sums of known tuples -/
namespace VV
open PySem PySem.Spec PyProof.Rows L2
section
variable {X : Cx} {pins : List (Addr × Obj)} {σ : L2.St} {H : Hp} {s : Shared}
end
section
variable {mg : Mg} {H : Hp}
end
section
variable {X : Cx} {LL : List Nat} {Γ : List Kd} {pos p p2 apos : Pos} {a b e : Expr} {sa sb se : Ev} {ma mb m : Md} {lo hi : Option Expr} {sl sh : List D → Option (Option Int)}
/-! ### a part of a tuple of whole numbers, not the whole: a new object, known -/
/-! ### isinstance of a dict of nested keys -/
end
end VV

/-! ## VKt2 -/
/-! more of known tuples: displays, sums, places -/
namespace VV
open PySem PySem.Spec PyProof.Rows L2
section
variable {X : Cx} {pos : Pos} {es : List Expr} {t : TA}
end
section
variable {X : Cx} {LL : List Nat} {Γ : List Kd} {pos : Pos} {a b : Expr} {sa sb : Ev} {ma mb : Md}
end
end VV

/-! ## VPut2 -/
/-! x[i][j] = e, a flat thing into a list of lists -/
namespace VV
open PySem PySem.Spec PyProof.Rows L2
section
variable {X : Cx} {W : L2.WX} {sc : Sc} {Γ : List Kd} {pos : Pos}
end
end VV

/-! ## VDrop -/
/-! a call as a statement; a list within a tuple gets one thing more, the name is not read again -/
namespace VV
open PySem PySem.Spec PyProof.Rows L2
section
variable {X : Cx} {W : L2.WX} {sc : Sc} {Γ : List Kd} {pos : Pos}
end
end VV

/-! ## VSort1 -/
/-! sorted(list), one thing or none, too -/
namespace VV
open PySem PySem.Spec PyProof.Rows L2
section
variable {X : Cx} {LL : List Nat} {Γ : List Kd} {pos p : Pos} {a : Expr} {sa : Ev} {ma : Md}
end
end VV

/-! ## VLstT -/
/-! list(d) of a dict whose keys are tuples -/
namespace VV
open PySem PySem.Spec PyProof.Rows L2
section
variable {X : Cx} {LL : List Nat} {Γ : List Kd} {pos p : Pos} {a : Expr} {sa : Ev} {ma : Md}
end
end VV

/-! ## VSetT -/
/-! d.setdefault(k, x), k a tuple: at the level of tracked heaps -/
namespace VV
open PySem PySem.Spec PyProof.Rows L2
section
variable {X : Cx} {pins : List (Addr × Obj)} {σ : L2.St} {H : Hp} {s : Shared} {a b : Addr} {r : Value} {d : V} {k : List L2.Key} {A : Around} {E : Value → Shared → Prop}
end
section
variable {X : Cx} {o e f : Expr} {td ty tx : TE} {apos cpos : Pos}
end
end VV

/-! ## VSetAT -/
/-! d.setdefault(k, []).append(flat), k a tuple of whole numbers and texts -/
namespace VV
open PySem PySem.Spec PyProof.Rows L2
section
variable {mg : Mg} {P : Fm} {g : Addr → Nat} {H : Hp}
end
section
variable {X : Cx} {W : L2.WX} {sc : Sc} {Γ : List Kd} {pos : Pos}
end
end VV

/-! ## VStep -/
/-! l[::k] of a list of flat things -/
namespace VV
open PySem PySem.Spec PyProof.Rows L2
section
variable {X : Cx} {e st : Expr} {te ts : TE} {pos p2 : Pos}
end
section
variable {X : Cx} {LL : List Nat} {Γ : List Kd} {pos p2 : Pos} {a b : Expr} {sa sb : Ev} {ma mb : Md}
end
end VV

/-! ## VForC -/
/-! for x in f(..): the keys of a dict just told (it is locked for good: nobody else has it) -/
namespace VV
open PySem PySem.Spec PyProof.Rows L2
section
variable {X : Cx} {e : Expr} {t : TE}
end
section
variable {X : Cx} {W : L2.WX} {sc : Sc} {Γ Γ1 : List Kd} {pos : Pos}
end
section
variable {X : Cx} {W : L2.WX} {sc : Sc} {Γ Γ1 : List Kd} {pos : Pos}
end
end VV

/-! ## VDClr -/
/-! d.clear(), a dict of whole keys -/
namespace VV
open PySem PySem.Spec PyProof.Rows L2
section
variable {X : Cx} {W : L2.WX} {sc : Sc} {Γ : List Kd} {pos : Pos}
end
end VV

/-! ## VObj -/
/-! instances: an attribute read, a method called -/
namespace VV
open PySem PySem.Spec PyProof.Rows L2
section
variable {X : Cx} {LL : List Nat} {Γ : List Kd} {pos : Pos} {a : Expr} {sa : Ev} {ma : Md}
end
section
variable {X : Cx} {LL : List Nat} {Γ : List Kd} {pos apos : Pos} {k : Nat} {ps : List Str} {sem : List D → Option Res} {R : Rm} {c m : Str}
end
end VV

/-! ## VObjI -/
/-! an instance that is being made: its attributes stored and read -/
namespace VV
open PySem PySem.Spec PyProof.Rows L2
section
variable {X : Cx} {W : L2.WX} {sc : Sc} {Γ : List Kd} {LL : List Nat} {pos : Pos}
end
end VV

/-! ## VObjN -/
/-! self.f[k] = v, a dict of nested keys -/
namespace VV
open PySem PySem.Spec PyProof.Rows L2
section
variable {X : Cx} {W : L2.WX} {sc : Sc} {Γ : List Kd} {pos : Pos}
end
end VV

/-! ## VObjF -/
/-! __init__, and an instance made -/
namespace VV
open PySem PySem.Spec PyProof.Rows L2
section
variable {P : Program} {w : World} {K : PySem.W.Frag} {mg : Str → Option Value} {base : Heap} {x qual : Str} {params : Arguments} {body : List Stmt} {scope : Scope} {f : Addr} {fd : FuncData}
end
section
variable {X : Cx} {LL : List Nat} {Γ : List Kd} {pos p : Pos} {k : Nat} {ps : List Str} {sem : List D → Option D} {c : Str}
end
end VV

/-! ## VZipL -/
/-! list(zip(t, u)) of two tuples, at the library's level -/
namespace VV
open PySem PySem.Spec PyProof.Rows RZ
open PySem.Sem (wp)
/-- a zip that has handed out a tuple -/
abbrev IsZipB (h : Heap) (z TI TO q : Addr) (b : Bool) : Prop :=
  h.get? z = some { cls := .type "zip", dict := none, data := .fields #[rawInt q, .bool b, .bool false, .ref TI, .ref TO], slots := #[] }
section
variable {prog : Program} {w : World} {A : Around} {E : Value → Shared → Prop} {s : Shared}
end
end VV

/-! ## VZipC -/
/-! list(zip(t, u)) of two tuples: the loop -/
namespace VV
open PySem PySem.Spec PyProof.Rows RZ
open PySem.Sem (wp)
structure ZS (S z TI TO i1 i2 l1 l2 : Addr) (B : Nat) (xs ys : Array Value) (k : Nat) (acc : Array Value) (h : Heap) : Prop where
  tI : IsPair h TI (.ref i1) (.ref i2)
  a1 : h.IsTupleIter i1 l1 k
  a2 : h.IsTupleIter i2 l2 k
  L1 : h.IsTuple l1 xs
  L2 : h.IsTuple l2 ys
  st : (IsZip h z TI TO .none ∧ ∃ a b, IsPair h TO a b) ∨ ∃ q b oq, IsZipB h z TI TO q b ∧ h.get? q = some oq ∧ B ≤ q
  hS : ∃ c, h.get? S = some { cls := .type "list", dict := none, data := .seq acc c, slots := #[] }
  sz : B ≤ (h.objs.size : Nat)
  len : acc.size = k
  its : ∀ (j : Nat) (x y : Value), j < k → xs[j]? = some x → ys[j]? = some y → ∃ q, acc[j]? = some (.ref q) ∧ B ≤ q ∧ IsPair h q x y
  lt : ∀ (j : Nat) (q : Addr), acc[j]? = some (.ref q) → (q : Nat) < (h.objs.size : Nat)
  dis : ∀ (i j : Nat) (q : Addr), acc[i]? = some (.ref q) → acc[j]? = some (.ref q) → i = j
section
variable {prog : Program} {w : World} {A : Around} {E : Value → Shared → Prop} {s : Shared}

end
end VV

/-! ## VZipD -/
/-! list(zip(t, u)) of two tuples: the call -/
namespace VV
open PySem PySem.Spec PyProof.Rows RZ
open PySem.Sem (wp)
section
variable {prog : Program} {w : World} {A : Around} {E : Value → Shared → Prop} {s : Shared}
end
end VV

/-! ## VZipE -/
/-! list(zip(t, u)) of two tuples -/
namespace VV
open PySem PySem.Spec PyProof.Rows L2
section
variable {X : Cx} {e e2 : Expr} {ta : TA} {p p2 pos pos2 : Pos}
end
end VV

/-! ## VZipF -/
/-! list(zip(t, u)) as trees -/
namespace VV
open PySem PySem.Spec PyProof.Rows L2
section
variable {X : Cx} {LL : List Nat} {Γ : List Kd} {p p2 pos pos2 : Pos} {a b : Expr} {sem : List D → Option (List D)} {m : Md}
end
end VV

/-! ## VIdxC -/
/-! X[i], X the module's tuple of texts -/
namespace VV
open PySem PySem.Spec PyProof.Rows L2
section
variable {X : Cx} {LL : List Nat} {Γ : List Kd} {pos p : Pos} {b : Expr} {sb : Ev} {mb : Md} {x : Str} {L : List Str}
end
section
variable {X : Cx} {LL : List Nat} {Γ : List Kd} {pos apos : Pos} {k : Nat} {ps : List Str} {sem : List D → Option Res} {c m : Str}
end
section
variable {X : Cx} {W : L2.WX} {sc : Sc} {Γ : List Kd} {LL : List Nat} {pos : Pos}
end
end VV

/-! ## VNin -/
/-! x in d, x not in d (d of nested keys); b is True, b is not True -/
namespace VV
open PySem PySem.Spec PyProof.Rows L2
section
variable {X : Cx} {pins : List (Addr × Obj)} {σ : L2.St} {H : Hp} {A : Around} {E : Value → Shared → Prop} {a b : Addr} {xs : List Ne} {k : NestedKey} {s : Shared}
end
section
variable {X : Cx} {o i : Expr} {td ty : TE}
end
section
variable {X : Cx} {LL : List Nat} {Γ : List Kd} {pos : Pos} {a b : Expr} {sa sb : Ev} {ma mb : Md}
end
/-! ### b is True -/
section
variable {X : Cx}
end
section
variable {X : Cx}
end
section
variable {X : Cx} {LL : List Nat} {Γ : List Kd} {pos : Pos} {a b : Expr} {sa sb : Ev} {ma mb : Md}
end
end VV

/-! ## VForF -/
/-! the walk over an attribute, a dict of nested keys -/
namespace VV
open PySem PySem.Spec PyProof.Rows L2
section
variable {X : Cx} {W : L2.WX} {sc : Sc} {Γ Γ1 : List Kd} {pos : Pos}
end
/-! ### o.m() -/
section
variable {X : Cx} {LL : List Nat} {Γ : List Kd} {pos apos : Pos} {k : Nat} {ps : List Str} {sem : List D → Option Res} {R : Rm} {c m : Str}
end
section
variable {X : Cx} {LL : List Nat} {Γ : List Kd} {pos apos : Pos} {k : Nat} {ps : List Str} {sem : List D → Option Res} {c m : Str}
end
end VV

/-! ## VTupM -/
/-! a list within a tuple of unlike objects: cleared, one flat thing more; the tuple is read on -/
namespace VV
open PySem PySem.Spec PyProof.Rows L2
section
variable {X : Cx} {W : L2.WX} {sc : Sc} {Γ : List Kd} {pos : Pos}
end
end VV

/-! ## VPopT -/
/-! d.pop(t), t a tuple that is a key; zip of two tuples -/
namespace VV
open PySem PySem.Spec PyProof.Rows L2
open PySem.W PySem.Calls
end VV
namespace L2.DX
open PySem PySem.Spec PyProof.Rows
end L2.DX
namespace VV
open PySem PySem.Spec PyProof.Rows L2
section
variable {X : Cx} {W : L2.WX} {sc : Sc} {Γ : List Kd} {pos : Pos}
end
/-! ### zip(tuple, tuple) -/
section
variable {X : Cx} {LL : List Nat} {Γ : List Kd} {pos p tpos : Pos} {a b : Expr} {sa sb : Ev} {ma : Md} {elts : List Expr} {kk : Nat}
end
end VV

/-! ## VForT -/
/-! for x in [a, b], a and b two tuples: its two turns one after the other -/
namespace VV
open PySem PySem.Spec PyProof.Rows L2
section
variable {X : Cx} {W : L2.WX} {sc : Sc} {Γ Γ1 Γ2 : List Kd} {pos : Pos}
end
end VV

/-! ## VAsgR -/
/-! a, b = f(..), a call that may raise -/
namespace VV
open PySem PySem.Spec PyProof.Rows L2
section
variable {X : Cx} {W : L2.WX} {sc : Sc} {Γ Γ' : List Kd} {pos : Pos}
end
end VV

/-! ## VStepN -/
/-! l[::k] of a list of flat things, k other than nought -/
namespace VV
open PySem PySem.Spec PyProof.Rows L2
section
variable {X : Cx} {e st : Expr} {te ts : TE} {pos p2 : Pos}
end
section
variable {X : Cx} {LL : List Nat} {Γ : List Kd} {pos p2 : Pos} {a b : Expr} {sa sb : Ev} {ma mb : Md}
end
end VV

/-! ## VTryO -/
/-! try .. except X: without a name, a suite that returns -/
namespace VV
open PySem PySem.Spec PyProof.Rows L2
section
variable {X : Cx} {W : L2.WX} {sc : Sc} {Γ Γ' : List Kd} {pos pos' np : Pos} {L : List Str}
end
end VV

/-! ## VAnyI -/
/-! any(a list of whole numbers) -/
namespace VV
open PySem PySem.Spec PyProof.Rows L2
section
variable {X : Cx}
end
end VV

/-! ## VSlP -/
/-! x[i][a:b] = [flat things], into a list of lists of flat things -/
namespace VV
open PySem PySem.Spec PyProof.Rows L2
section
variable {X : Cx} {e lo hi : Expr} {te ta tb : TE} {pos p2 : Pos}
end
section
variable {X : Cx} {W : L2.WX} {sc : Sc} {Γ : List Kd} {pos : Pos}
end
end VV

/-! ## VErA -/
/-! f(a, g(..)): both calls may raise -/
namespace VV
open PySem PySem.Spec PyProof.Rows L2
section
variable {X : Cx} {W : L2.WX} {LL : List Nat} {Γ : List Kd} {pos p : Pos} {k : Nat} {ps : List Str} {sem : List D → Option Res} {R : Rm} {x : Str}
end
end VV

/-! ## VTry2 -/
/-! try .. except (X, Y): without a name, a suite that returns -/
namespace VV
open PySem PySem.Spec PyProof.Rows L2
section
variable {X : Cx} {x x2 : Str} {c c2 : Value} {body suite : List Stmt} {b₀ : Stmt} {np np2 tp pos pos' : Pos} {kk : Nat} {tb : L2.WX → TS} {ts : Addr → Value → Option Addr → TS} {Wout : L2.WX}
end
section
variable {X : Cx} {W : L2.WX} {sc : Sc} {Γ Γ' : List Kd} {pos pos' np np2 tp : Pos} {kk : Nat} {L : List Str}
end
end VV

/-! ## VDictP -/
/-! dict(xs) of a list of pairs: unlike whole numbers, and flat things -/
namespace VV
open PySem PySem.Spec PyProof.Rows L2
section
variable {X : Cx} {LL : List Nat} {Γ : List Kd} {pos p : Pos} {a : Expr} {sa : Ev} {ma : Md}
end
end VV

/-! ## VAsgU -/
/-! a, b, .. = a new tuple: each part by labels of its own -/
namespace VV
open PySem PySem.Spec PyProof.Rows L2
open scoped Classical
section
variable {mg : Mg} {P : Fm} {LL : List Nat} {g f : Addr → Nat} {ρ : List D} {σ : L2.St} {H H' : Hp}
end
/-! ### targets, each of a kind -/
section
variable {X : Cx} {W : L2.WX} {sc : Sc} {Γ Γ' Γ1 : List Kd} {pos : Pos}
end
end VV

/-! ## VPutT -/
/-! x[i][j] = e, a thing that may be new into a list of flat lists -/
namespace VV
open PySem PySem.Spec PyProof.Rows L2
section
variable {mg : Mg} {H : Hp}
end
section
variable {X : Cx} {W : L2.WX} {sc : Sc} {Γ : List Kd} {pos : Pos}
end
end VV

/-! ## VShow -/
/-! repr(x) of a thing, in a def of which it is known that no thing's text is being made around it: the law itself, called by its caller -/
namespace VV
open PySem PySem.Spec PyProof.Rows L2
section
variable {X : Cx}
end
section
variable {X : Cx} {LL : List Nat} {Γ : List Kd} {pos : Pos} {a b : Expr} {sa sb : Ev} {ma mb : Md}
end
section
variable {P : Program} {w : World} {K : PySem.W.Frag} {mg : Str → Option Value} {base : Heap} {x qual : Str} {params : Arguments} {body : List Stmt} {scope : Scope} {f : Addr} {fd : FuncData}
end
end VV

/-! ## VTx -/
/-! texts read: startswith, split, int(text), text[i], a sign in a text, the signs of a text -/
namespace VV
open PySem PySem.Spec PyProof.Rows L2
def sgnD (x : Str) : List D := x.cps.toList.map fun c => .str ⟨#[c]⟩
section
variable {X : Cx} {LL : List Nat} {Γ : List Kd} {pos apos p : Pos} {a b tg e : Expr} {sa sb se : Ev} {ma mb m : Md}
end
end VV

/-! ## VFdefs -/
/-! the trees of the defs that the laws of drawings and openings share (printed by gen.py) -/
namespace VP
open PySem PySem.Spec PyProof.Rows L2 VV VP

end VP

/-! ## VFA -/
/-! the law's numbers; words; mixing up -/
namespace VP
open PySem PySem.Spec PyProof.Rows L2 VV VP


end VP

/-! ## VFB -/
/-! while; ==; mixing up; drawings -/
namespace VV
open PySem PySem.Spec PyProof.Rows L2
section
variable {ρ : List D} {b : Sv} {c : List D → Option Bool} {Q : Out → Prop}
end
section
variable {α : Type} [DecidableEq α]
end
section
variable {i j : Nat} {se ke ve : Ev} {ρ ρ1 ρ2 : List D} {t u : Tv} {a b d d1 y z x xl yl k : D} {p : D × D}
end
end VV
namespace VP
open PySem PySem.Spec PyProof.Rows L2 VV VP
end VP

/-! ## VExg -/
/-! exceptions, evaluated -/
namespace VV
open PySem PySem.Spec PyProof.Rows L2
section
variable {i n : Nat} {ρ ρ' ds : List D} {d : D} {b s m : Sv} {L : List Str} {y c : Str} {pk : List Kd} {r : List D → Option Res} {Q : Out → Prop} {f : List D → Option Res} {a : List D → Option (List D)} {t : List D → Option Bool}
@[simp] theorem go_raise : Go (sRaise c) ρ Q = Q (.ex c ρ) := by
  unfold Go sRaise
  simp
@[simp] theorem cont_ex : Cont b Q (.ex c ρ) = Q (.ex c ρ) := rfl
end
end VV
namespace VP
open PySem PySem.Spec PyProof.Rows L2 VV
end VP

/-! ## VFC -/
/-! joining of names: roots; drawings: ends, pairs -/
namespace VP
open PySem PySem.Spec PyProof.Rows L2 VV VP

/-! ### classes -/
inductive Eqn (Ps : List (Int × Int)) : Int → Int → Prop
  | gen {p : Int × Int} : p ∈ Ps → Eqn Ps p.1 p.2
  | refl (n : Int) : Eqn Ps n n
  | symm {n m : Int} : Eqn Ps n m → Eqn Ps m n
  | trans {n m k : Int} : Eqn Ps n m → Eqn Ps m k → Eqn Ps n k
theorem Eqn.mono {Ps Qs : List (Int × Int)} (h : ∀ p ∈ Ps, p ∈ Qs) {n m : Int} (e : Eqn Ps n m) : Eqn Qs n m := by
  induction e with
  | gen hp => exact .gen (h _ hp)
  | refl n => exact .refl n
  | symm _ ih => exact ih.symm
  | trans _ _ ih1 ih2 => exact ih1.trans ih2
/-- each name's least one of its class -/
structure IsRt (Ps : List (Int × Int)) (rt : Int → Int) : Prop where
  pr : ∀ p ∈ Ps, rt p.1 = rt p.2
  eq : ∀ n, Eqn Ps n (rt n)
  le : ∀ n, rt n ≤ n
/-- one pair more -/
def joinR (rt : Int → Int) (x y : Int) : Int → Int := fun n => if rt n = max (rt x) (rt y) then min (rt x) (rt y) else rt n
/-- the heads stand for the classes -/
structure Heads (N : List Int) (h rt : Int → Int) : Prop where
  mem : ∀ n ∈ N, h n ∈ N
  le : ∀ n ∈ N, h n ≤ n
  rh : ∀ n ∈ N, rt (h n) = rt n
  fix : ∀ n ∈ N, h n = n → rt n = n
  hr : ∀ n ∈ N, h (rt n) = rt n
  rm : ∀ n ∈ N, rt n ∈ N

/-! ### the dict of heads -/
def kI (n : Int) : Ky := .k (.inl n)
def mD (N : List Int) (h : Int → D) : D := .dic false (N.map kI) (N.map h)
theorem kI_inj {a b : Int} (e : kI a = kI b) : a = b := by cases e; rfl
theorem lk_m {N : List Int} {h : Int → D} {n : Int} (hn : n ∈ N) : lkD (N.map kI) (N.map h) (kI n) = some (h n) := by
  induction N with
  | nil => cases hn
  | cons a r ih =>
    simp only [List.map_cons, lkD, List.zip_cons_cons, List.find?_cons]
    by_cases e : a = n
    · subst e; simp
    · have : ¬ kI a = kI n := fun z => e (kI_inj z)
      simp only [this, decide_false]
      exact ih ((List.mem_cons.mp hn).elim (fun z => absurd z.symm e) id)
@[simp] theorem get_m {N : List Int} {h : Int → D} {n : Int} (hn : n ∈ N) : dGet [mD N h, .int n] = some (h n) := by
  unfold mD
  rw [dGet_s]
  exact lk_m hn
end VP

/-! ## VFE -/
/-! drawings: names, openings, pairs, loops -/
namespace VP
open PySem PySem.Spec PyProof.Rows L2 VV VP
/-- a crossing: its sign, under in, under out, over in, over out -/
structure Cr where
  (s a b c d : Int)
  deriving DecidableEq
def crD (x : Cr) : D := .tup [.int x.s, .int x.a, .int x.b, .int x.c, .int x.d]
def intsD (l : List Int) : D := .lst (l.map D.int)
def drD (rs : List Int) (cs : List Cr) : D := .tup [intsD rs, .lst (cs.map crD)]
def insC (cs : List Cr) : List Int := cs.flatMap fun x => [x.a, x.c]
def outsC (cs : List Cr) : List Int := cs.flatMap fun x => [x.b, x.d]
@[simp] theorem cr_flat {x : Cr} : (crD x).isFlat = true := by simp [crD]
@[simp] theorem dr0 {rs : List Int} {cs : List Cr} : dIdx [drD rs cs, .int 0] = some (intsD rs) := by simp [drD]
@[simp] theorem dr1 {rs : List Int} {cs : List Cr} : dIdx [drD rs cs, .int 1] = some (.lst (cs.map crD)) := by simp [drD]
@[simp] theorem cr0 {x : Cr} : dIdx [crD x, .int 0] = some (.int x.s) := by simp [crD]
@[simp] theorem cr1 {x : Cr} : dIdx [crD x, .int 1] = some (.int x.a) := by simp [crD]
@[simp] theorem cr2 {x : Cr} : dIdx [crD x, .int 2] = some (.int x.b) := by simp [crD]
@[simp] theorem cr3 {x : Cr} : dIdx [crD x, .int 3] = some (.int x.c) := by simp [crD]
@[simp] theorem cr4 {x : Cr} : dIdx [crD x, .int 4] = some (.int x.d) := by simp [crD]

/-! ### sorted -/
@[simp] theorem kf_ints {l : List Int} : (intsD l).kidsFlat = true := by simp [intsD]

/-! ### openings, pairs -/
end VP

/-! ## VFG -/
/-! the loops of an opening -/
namespace VP
open PySem PySem.Spec PyProof.Rows L2 VV VP
section
variable {K : List Int} {F : Int → D} {n : Int} {l : List D} {y : D}
end
section
variable {rs : List Int} {cs : List Cr} {bs : List Int} (hnd : (rs ++ insC cs).Nodup) (hcl : ∀ x ∈ cs, x.b ∈ rs ++ insC cs ∧ x.d ∈ rs ++ insC cs) (hl : rs.length + 2 * cs.length < 64) (hb : bs.length = cs.length) (hb01 : ∀ b ∈ bs, b = 0 ∨ b = 1)
include hcl in
include hnd hcl hl hb hb01
end
end VP

/-! ## VFH -/
/-! drawings that are good; the closing of a word, plain -/
namespace VP
open PySem PySem.Spec PyProof.Rows L2 VV VP
/-- two colours of the names: at a crossing in turn -/
def ColX (col : Int → Bool) (x : Cr) : Prop := col x.b = !col x.a ∧ col x.c = col x.b ∧ col x.d = col x.a
structure Good (rs : List Int) (cs : List Cr) : Prop where
  nd : (rs ++ insC cs).Nodup
  op : (outsC cs).Perm (insC cs)
  col : ∃ col : Int → Bool, ∀ x ∈ cs, ColX col x
  sg : ∀ x ∈ cs, x.s = 1 ∨ x.s = -1
def rg (m : Nat) : List Int := (List.range m).map fun i : Nat => (i : Int)
/-- a word so far -/
structure Brd (n i : Nat) (here : List Int) (cs : List Cr) : Prop where
  ln : here.length = n
  cn : cs.length = i
  ih : (insC cs ++ here).Perm (rg (n + 2 * i))
  ou : ∀ z, z ∈ outsC cs ↔ (n : Int) ≤ z ∧ z < n + 2 * i
  on : (outsC cs).Nodup
  st : ∀ (j : Nat) (v : Int), here[j]? = some v → v < n → v = (j : Nat)
  co : ∃ col : Int → Bool, (∀ (j : Nat) (v : Int), here[j]? = some v → col v = decide (j % 2 = 1)) ∧ (∀ j : Nat, j < n → col j = decide (j % 2 = 1)) ∧ ∀ x ∈ cs, ColX col x
  sg : ∀ x ∈ cs, x.s = 1 ∨ x.s = -1
end VP

/-! ## VFI -/
/-! the closing of a word: good; what the program's law makes -/
namespace VP
open PySem PySem.Spec PyProof.Rows L2 VV VP
end VP

/-! ## VFJ -/
/-! the closing of a word: the law's own function -/
namespace VP
open PySem PySem.Spec PyProof.Rows L2 VV VP
theorem chk_cr {x : Cr} : (some (crD x)).filter D.isTup = some (crD x) := rfl
end VP

/-! ## VFK -/
/-! a curl put in, plain -/
namespace VP
open PySem PySem.Spec PyProof.Rows L2 VV VP
end VP

/-! ## VFL -/
/-! a curl: the law's own function -/
namespace VP
open PySem PySem.Spec PyProof.Rows L2 VV VP
theorem list4 {x : Cr} : dList [.tup [.int x.a, .int x.b, .int x.c, .int x.d]] = some (intsD [x.a, x.b, x.c, x.d]) := rfl
end VP

/-! ## VFM -/
/-! other names, other orders; the drawing of a law -/
namespace VP
open PySem PySem.Spec PyProof.Rows L2 VV VP
/-- the names given so far -/
structure Nmd (K : List Int) (sg : Int) (φ : Int → Int) : Prop where
  nd : K.Nodup
  vl : ∀ (j : Nat) (n : Int), K[j]? = some n → ∃ r : Int, 0 ≤ r ∧ r < 1009 ∧ φ n = (1000000000 * r + j) * sg
end VP

/-! ## VFN -/
/-! the drawing of a law -/
namespace VP
open PySem PySem.Spec PyProof.Rows L2 VV VP
end VP

/-! ## VFP -/
/-! sorted lists of lists; which loops -/
namespace VP
open PySem PySem.Spec PyProof.Rows L2 VV VP

/-! ### by other names -/
end VP

/-! ## VFdefs2 -/
/-! the trees of the law's own ends, bits, loops (printed by gen.py) -/
namespace VP
open PySem PySem.Spec PyProof.Rows L2 VV VP

end VP

/-! ## VFQ -/
/-! the law's own ends, bits, copies -/
namespace VP
open PySem PySem.Spec PyProof.Rows L2 VV VP
end VP

/-! ## VFR -/
/-! heaps of names, plain -/
namespace VP
open PySem PySem.Spec PyProof.Rows L2 VV VP
structure Hps (N : List Int) (Ps : List (Int × Int)) (H : List (List Int)) : Prop where
  pm : H.flatten.Perm N
  ne : ∀ h ∈ H, h ≠ []
  eq : ∀ h ∈ H, ∀ a ∈ h, ∀ b ∈ h, Eqn Ps a b
  pr : ∀ p ∈ Ps, ∃ h ∈ H, p.1 ∈ h ∧ p.2 ∈ h
section
variable {N : List Int} {Ps : List (Int × Int)} {H : List (List Int)} (hN : N.Nodup) (h : Hps N Ps H)
include hN h
theorem Hps.same {x y : Int} {m : List Int} (hm : m ∈ H) (hx : x ∈ m) (hy : y ∈ m) : Hps N (Ps ++ [(x, y)]) H := by
  refine ⟨h.pm, h.ne, fun g hg a ha b hb => (h.eq g hg a ha b hb).mono fun p hp => List.mem_append_left _ hp, fun p hp => ?_⟩
  rcases List.mem_append.mp hp with hp | hp
  · exact h.pr p hp
  · rw [List.mem_singleton.mp hp]
    exact ⟨m, hm, hx, hy⟩
end
end VP

/-! ## VFS -/
/-! heaps in order are the loops -/
namespace VP
open PySem PySem.Spec PyProof.Rows L2 VV VP
end VP

/-! ## VFT -/
/-! the law's own loops -/
namespace VP
open PySem PySem.Spec PyProof.Rows L2 VV VP
section
variable {rs : List Int} {cs : List Cr} {bs : List Int} (g : Good rs cs) (hl : rs.length + 4 * cs.length < 64) (hb : bs.length = cs.length) (hb01 : ∀ b ∈ bs, b = 0 ∨ b = 1)
include g hl hb hb01
end
end VP

/-! ## VFU -/
/-! chains of a partial injection: a class from its start to its end -/
namespace VP
open PySem PySem.Spec PyProof.Rows L2 VV VP
section
variable {Pr : List (Int × Int)} {N : List Int} {f : Int → Option Int}
end
end VP

/-! ## VFV -/
/-! the edges of an opening, led by the colours -/
namespace VP
open PySem PySem.Spec PyProof.Rows L2 VV VP
end VP

/-! ## VFW -/
/-! the heart of turning over: one place of an opening -/
namespace VP
open PySem PySem.Spec PyProof.Rows L2 VV VP
end VP

/-! ## VFX -/
/-! two loops joined: places in both lists -/
namespace VP
open PySem PySem.Spec PyProof.Rows L2 VV VP
end VP

/-! ## VFY -/
/-! an opening turned over at one place: its loops and those of the next one -/
namespace VP
open PySem PySem.Spec PyProof.Rows L2 VV VP
/-- sep: the loops of one opening; the other one has two of them joined -/
structure Apart (N : List Int) (Ps Qs : List (Int × Int)) (rt : Int → Int) (a b : Int) : Prop where
  p : IsRt Ps rt
  q : IsRt Qs (joinR rt a b)
  ha : a ∈ N
  hb : b ∈ N
  ne : rt a ≠ rt b
  me : ∀ n ∈ N, rt n ∈ N
end VP

/-! ## VFZ -/
/-! drawings are alike to themselves -/
namespace VP
open PySem PySem.Spec PyProof.Rows L2 VV VP
theorem crD_ints {x : Cr} : crD x = .tup ([x.s, x.a, x.b, x.c, x.d].map D.int) := rfl
end VP

/-! ## VTy -/
/-! texts of numbers, joined and split, cut, read (the first part as for k82) -/
namespace VT
open PySem PySem.Spec PyProof.Rows L2 VV VP
open TL (tl ext_tl tl_append)
/-- a text of at most n signs, each a sign -/
structure Gd (n : Nat) (x : Str) : Prop where
  ln : x.length ≤ n
  ok : PyData.strOk x = true


theorem sgn_s {x : Str} : sgnD x = (tl x).map fun c => .str ⟨#[c]⟩ := rfl
end VT

/-! ## VTxM -/
/-! more of texts: strip(signs), partition, text * number, a sign not in a text; replace (behind a statement that has given out a token) -/
namespace VV
open PySem PySem.Spec PyProof.Rows L2
section
variable {X : Cx} {LL : List Nat} {Γ : List Kd} {pos apos p : Pos} {a b e : Expr} {sa sb se : Ev} {ma mb m : Md}
end
/-! ### one token is out -/
section
variable {X : Cx} {W : L2.WX} {sc : Sc} {LL : List Nat} {Γ Γ1 Γ' : List Kd} {pos apos p : Pos} {a b e : Expr} {sa sb se : Ev} {ma mb m : Md}
end
end VV

/-! ## VLcR -/
/-! [f(x) for x in ..], f may raise: what the block lets out goes on to the def -/
namespace VV
open PySem PySem.Spec PyProof.Rows L2
section
variable {M : Model} {A : Around} {E : Value → Shared → Prop} {s : Shared} {env : Env}
end
section
variable {X : Cx} {W : L2.WX}
end
/-! ### as trees -/
section
variable {X : Cx} {W : L2.WX} {LL : List Nat} {Γ Γ1 : List Kd} {pos : Pos}
end
end VV

/-! ## VMDic -/
/-! the module's dicts with texts as keys, whole numbers or tuples of texts as values; zip of such a tuple and a list -/
namespace VV
open PySem PySem.Spec PyProof.Rows L2
inductive MV where
  | int (i : Int) | txs (l : List Str)
def MV.d : MV → D
  | .int i => .int i
  | .txs l => .ktx l
def ktxB (K : PySem.W.Frag) (a : Addr) (l : List Str) : Bool := match K.lookup a with
  | some ⟨.type c, _, .seq its _, _⟩ => decide (c = "tuple") && (decide (its.size ≤ sizeLine) && He.relAll (l.map V.str) its.toList)
  | _ => false
def MV.is (K : PySem.W.Frag) : MV → Value → Bool
  | .int i, .int j _ => decide (i = j)
  | .txs l, .ref a => ktxB K a l
  | _, _ => false
section
variable {X : Cx} {LL : List Nat} {Γ : List Kd} {pos p apos cpos : Pos} {e : Expr} {se : Ev} {me : Md} {x : Str} {ps : List (Str × MV)}
end
end VV

/-! ## VHeadW -/
/-! a head that tells the module's dicts: their keys' hashes hang on the world -/
namespace VV
open PySem PySem.Spec PyProof.Rows L2 He
def esB (K : PySem.W.Frag) : List (Str × MV) → List DictEntry → Bool
  | [], [] => true
  | p :: ps, e :: es => (match e.key with | .str s _ => decide (s = p.1) | _ => false) && (p.2.is K e.val && esB K ps es)
  | _, _ => false
def dicB (K : PySem.W.Frag) (x : Str) (ps : List (Str × MV)) : Bool := match K.lookup (ga K x) with
  | some ⟨.type c, none, .dict es _, sl⟩ => (decide (c = "dict") && sl.isEmpty) && (esB K ps es.toList && decide ((ps.map (·.1)).Nodup))
  | _ => false
def dicH (K : PySem.W.Frag) (x : Str) : List Int := match K.lookup (ga K x) with
  | some ⟨_, _, .dict es _, _⟩ => es.toList.map (·.hash)
  | _ => []
def dicsB (ds : List (Str × List (Str × MV))) (ck : PySem.W.Frag → Bool) (K : PySem.W.Frag) : Bool := ck K && ds.all fun p => (Fa.glo p.1).ok K && (dicB K p.1 p.2 && decide ((ga K p.1 == sysModules) = false))
def dicsV (ds : List (Str × List (Str × MV))) (w : World) : List (List Int) := ds.map fun p => p.2.map fun q => keyH w (.inr q.1)
abbrev AlW : Type := AlD × List (List Int)
def obsW (ds : List (Str × List (Str × MV))) (ck : PySem.W.Frag → Bool) (fa : List Fa) (fn : List DefD) (K : PySem.W.Frag) : AlW := (obsV (dicsB ds ck) fa fn K, ds.map fun p => dicH K p.1)
def SaysW (w : World) (ds : List (Str × List (Str × MV))) (ck : PySem.W.Frag → Bool) (fa : List Fa) (fn : List DefD) (K : PySem.W.Frag) : Prop := obsW ds ck fa fn K = (valD fn, dicsV ds w)
theorem SaysW.v {w : World} {ds : List (Str × List (Str × MV))} {ck : PySem.W.Frag → Bool} {fa : List Fa} {fn : List DefD} {K : PySem.W.Frag} (c : SaysW w ds ck fa fn K) : SaysV (dicsB ds ck) fa fn K ∧ (ds.map fun p => dicH K p.1) = dicsV ds w := ⟨congrArg Prod.fst c, congrArg Prod.snd c⟩
section
variable {P : Program} {w : World} {K : PySem.W.Frag} {h : Heap} {mg : Str → Option Value} {ds : List (Str × List (Str × MV))} {ck : PySem.W.Frag → Bool}
end
end VV

/-! ## VHeadR -/
/-! the head's run in three parts, each by itself -/
namespace HandSHeadRun
open PySem PySem.W PySem.Calls PyProof.Rows
end HandSHeadRun

/-! ## VZipT -/
/-! zip(a tuple of the module, a list); [f(x, y) for x, y in zip(g(..), l)], g and f may raise -/
namespace VV
open PySem PySem.Spec PyProof.Rows L2

/-! ### what is walked may raise -/
section
variable {X : Cx} {W : L2.WX} {LL : List Nat} {Γ Γ1 : List Kd} {pos p tpos : Pos}
end
end VV

/-! ## VDeskA -/
/-! methods that may raise; a desk read; a store that is never come to -/
namespace VV
open PySem PySem.Spec PyProof.Rows L2
section
variable {X : Cx} {CX : CXT} {k : Nat} {f C : Addr} {fd : FuncData} {ps : List Str} {sp : Sp} {E : L2.St → XK} {m : Str} {pos apos : Pos} {e o : Expr} {es : List Expr} {ta : TE} {t : TA}
end
section
variable {X : Cx} {W : L2.WX} {LL : List Nat} {Γ : List Kd} {pos apos : Pos} {k : Nat} {ps : List Str} {sem : List D → Option Res} {R : Rm} {c m : Str}
end
section
variable {X : Cx} {W : L2.WX} {sc : Sc} {Γ Γ' : List Kd} {pos pos' : Pos}
end
end VV

/-! ## VDeskB -/
/-! methods that change a desk: the spec, statements that tell the desk's state, calls -/
namespace VV
open PySem PySem.Spec PyProof.Rows L2
/-! ### behind a call that changes the dict at b alone -/
structure Aft (mg : Mg) (H H' : Hp) (a b : Addr) (F fp : List Addr) (d1 : D) : Prop where
  keep : ∀ x o, x ≠ b → H x = some o → H' x = some o
  mu : Mut (H' b)
  at_ : ∃ F', DkAt mg H' d1 a b F' ∧ a ∉ F' ∧ b ∉ F' ∧ ∀ x ∈ F', x ∈ F ∨ x ∈ fp ∨ New H H' x
/-! ### what a body comes to, with the state -/
inductive OutM where
  | nx (ρ : List D) | rt (d : D) (ρ : List D) | ex (c : Str) (ρ : List D)
structure ScM where
  LL : List Nat
  Γr : List Kd
  Γx : List Kd
def ScM.sc (s : ScM) : Sc := ⟨s.LL, .flat, [], s.Γx⟩
def WantM (X : Cx) (W : L2.WX) (sc : ScM) (P : Fm) (Γ' : List Kd) (g : Addr → Nat) (H : Hp) (D : Ends) : OutM → Prop
  | .nx ρ' => ∀ g' σ' H', Step sc.LL g H g' H' → Sta X.vm P sc.LL Γ' g' ρ' σ' H' → D.nx σ' H'
  | .rt d ρ' => ∀ v g' σ' H', Step sc.LL g H g' H' → Sta X.vm P sc.LL sc.Γr g' ρ' σ' H' → Rep X.vm H' d v [] → D.rt v H'
  | .ex c ρ' => ∀ C g' σ' H', X.mg c = some (.ref C) → Step sc.LL g H g' H' → Sta X.vm P sc.LL sc.Γx g' ρ' σ' H' → W (.ref C) none σ' H'
theorem WantM.from {X : Cx} {W : L2.WX} {sc : ScM} {P : Fm} {Γ' : List Kd} {g g1 : Addr → Nat} {H H1 : Hp} {D : Ends} {o : OutM} (h : WantM X W sc P Γ' g H D o) (s : Step sc.LL g H g1 H1) : WantM X W sc P Γ' g1 H1 D o := by
  cases o with
  | nx ρ' => exact fun g' σ' H' s' st => h g' σ' H' (s.trans s') st
  | rt d ρ' => exact fun v g' σ' H' s' st r => h v g' σ' H' (s.trans s') st r
  | ex c ρ' => exact fun C g' σ' H' m s' st => h C g' σ' H' m (s.trans s') st
section
variable {X : Cx} {W : L2.WX} {sc : ScM} {Γ Γ' Γ1 : List Kd} {pos : Pos}
end
/-! ### one dict is changed by a callee -/
section
variable {mg : Mg} {P : Fm} {LL : List Nat} {Γ : List Kd} {g : Addr → Nat} {ρ : List D} {σ : L2.St} {H H' : Hp} {b : Addr} {l c : Nat}
/-- all but b stay; it is written -/
structure One (H H' : Hp) (b : Addr) : Prop where
  keep : ∀ x o, x ≠ b → H x = some o → H' x = some o
  mb : Mut (H b)
  mb' : Mut (H' b)
theorem mut_tup {o : Option HO} {xs : List V} (h : Mut o) (e : o = some (.tup xs)) : False := by subst e; exact h
theorem mut_frz {o : Option HO} {ob : Obj} {u : HO} (h : Mut o) (e : o = some (.frz ob u)) : False := by subst e; exact h
theorem One.kpT (t : One H H' b) : KpT H H' := by
  refine ⟨fun x xs e => t.keep x _ (fun z => ?_) e, fun x o vs e => t.keep x _ (fun z => ?_) e, fun x o vs e => t.keep x _ (fun z => ?_) e⟩
  · subst z; exact mut_tup t.mb e
  · subst z; exact mut_frz t.mb e
  · subst z; exact mut_frz t.mb e
theorem One.kp (t : One H H' b) {x : Addr} (h2 : x ≠ b) : Kp H H' x := by
  refine ⟨fun u _ r => ?_, fun vs r => t.keep x _ h2 r, fun _ _ _ r => t.keep x _ h2 r⟩
  rcases r with r | ⟨o, r⟩
  · exact .inl (t.keep x _ h2 r)
  · exact .inr ⟨o, t.keep x _ h2 r⟩
theorem One.cell (t : One H H' b) (s : Loc P LL g H) (gb : g b = l) {k : Kd} {d : D} {ov : Option V} (hc : CellOk mg P g H k d ov) : CellOk mg P (relab g H H' .non c c) H' (if k.has l then .dead else k) d ov := by
  split
  · trivial
  · rename_i hl
    induction k generalizing d ov with
    | dead => trivial
    | pr p k1 k2 i1 i2 =>
      obtain ⟨a, d1, d2, v1, v2, e0, e1, r, q, c1, c2⟩ := hc
      simp only [Kd.has, Bool.or_eq_true, beq_iff_eq, not_or] at hl
      have hba : a ≠ b := fun e => hl.1.1 (by have := List.mem_singleton.mp q.1; rw [e, gb] at this; exact this.symm)
      exact ⟨a, d1, d2, v1, v2, e0, e1, t.keep a _ hba r, q.relab s, i1 c1 hl.1.2, i2 c2 hl.2⟩
    | ow fl m L =>
      obtain ⟨a, f, e0, r, nd, q1, q2, q3⟩ := hc
      simp only [Kd.has, Bool.or_eq_true, beq_iff_eq, not_or] at hl
      refine ⟨a, f, e0, r.keep (fun x hx => t.kp fun e => ?_) t.kpT, nd, q1.relab s, fun x hx => (q2 x hx).relab s, q3⟩
      rcases List.mem_cons.mp hx with rfl | hx
      · exact hl.1 (by have := List.mem_singleton.mp q1.1; rw [e, gb] at this; exact this.symm)
      · exact hl.2 (by have := (q2 x hx).1; rw [e, gb] at this; simpa using this)
    | exc _ _ => exact hc
    | flat =>
      obtain ⟨v, rfl, r⟩ := hc
      exact ⟨v, rfl, r.keep (fun x hx => nomatch hx) t.kpT⟩
    | lab rt L nd =>
      obtain ⟨v, fp, rfl, r, q, z⟩ := hc
      have ne : ∀ x ∈ fp, x ≠ b := fun x hx e => by
        rcases q x hx with ⟨_, m, rfl, y⟩ | ⟨_, y⟩
        · have := List.mem_singleton.mp y.1
          refine hl ?_
          rw [e, gb] at this; simp [Kd.has, this]
        · have := y.1
          refine hl ?_
          rw [e, gb] at this; simp [Kd.has, this]
      refine ⟨v, fp, rfl, r.keep (fun x hx => t.kp (ne x hx)) t.kpT, fun x hx => ?_, z⟩
      rcases q x hx with ⟨e, m, y, o⟩ | ⟨e, o⟩
      · exact .inl ⟨e, m, y, o.relab s⟩
      · exact .inr ⟨e, o.relab s⟩
    | ob m Ls =>
      obtain ⟨x, C, dx, c', ns, vs, ds, fps, rfl, rfl, hc', hl', r, ob, rs, fs, nd⟩ := hc
      simp only [Kd.has, Bool.or_eq_true, beq_iff_eq, List.any_eq_true, not_or, not_exists, not_and] at hl
      have h2 : x ≠ b := fun e => hl.1 (by have := List.mem_singleton.mp ob.1.1; rw [e, gb] at this; exact this.symm)
      refine ⟨x, C, dx, c', ns, vs, ds, fps, rfl, rfl, hc', hl', t.keep x _ h2 r, ⟨ob.1.relab s, ob.2⟩, rs.monoF fun d v f hf h => h.keep (fun y hy => ?_) t.kpT, fs.mono fun b L h => h.relab s, nd⟩
      obtain ⟨L, hL, o⟩ := fs.mem hf hy
      refine t.kp (fun e => hl.2 L hL ?_)
      have := o.1; rw [e, gb] at this; simpa using this
    | dk fl m p L =>
      obtain ⟨x, y, F, e0, r, o1, o2, o3, o4⟩ := hc
      simp only [Kd.has, Bool.or_eq_true, beq_iff_eq, not_or] at hl
      refine ⟨x, y, F, e0, r.keep (fun z hz => ?_) t.kpT, o1.relab s, o2.relab s, fun x hx => (o3 x hx).relab s, o4⟩
      rcases List.mem_cons.mp hz with rfl | hz
      · have := List.mem_singleton.mp o1.1
        exact t.kp (fun e => hl.1.1 (by rw [e, gb] at this; exact this.symm))
      · rcases List.mem_cons.mp hz with rfl | hz
        · have := List.mem_singleton.mp o2.1
          exact t.kp (fun e => hl.1.2 (by rw [e, gb] at this; exact this.symm))
        · have := (o3 z hz).1
          exact t.kp (fun e => hl.2 (by rw [e, gb] at this; simpa using this))
end
end VV

/-! ## VDeskC -/
/-! a desk made, asked by a method that changes it, a store into it; tests with such calls; defs of this kind -/
namespace VV
open PySem PySem.Spec PyProof.Rows L2
def qMeth (i : Nat) (c m : Str) (f : List D → Option (Res × D)) (a : List D → Option (List D)) : List D → Option (Res × List D) := fun ρ => match ρ[i]? with
  | some (.obj c' ns ds) => if c' = c ∧ m ∉ ns then (a ρ).bind fun xs => (f (.obj c' ns ds :: xs)).map fun z => (z.1, ρ.set i z.2) else none
  | _ => none
/-- an expression that may change the state, and does not raise -/
def EM0 (X : Cx) (LL : List Nat) (Γ : List Kd) (e : Expr) (sem : List D → Option (Res × List D)) (Γ' : List Kd) : Prop :=
  ∃ t, PE X e t ∧ ∀ P g ρ σ H Q d ρ', Sta X.vm P LL Γ g ρ σ H → sem ρ = some (.ret d, ρ') → (∀ v g' H', Step LL g H g' H' → Sta X.vm P LL Γ' g' ρ' σ H' → Rep X.vm H' d v [] → Q v H') → t σ H Q
section
variable {X : Cx} {W : L2.WX} {LL : List Nat} {Γ : List Kd} {pos apos px : Pos} {k : Nat} {ps : List Str} {sem : List D → Option (Res × D)} {c m : Str}
/-! ### tests -/
def ETM (X : Cx) (LL : List Nat) (Γ : List Kd) (e : Expr) (sem : List D → Option (Bool × List D)) (Γ' : List Kd) : Prop :=
  ∃ t, PT X e t ∧ ∀ P g ρ σ H Q b ρ', Sta X.vm P LL Γ g ρ σ H → sem ρ = some (b, ρ') → (∀ g' H', Step LL g H g' H' → Sta X.vm P LL Γ' g' ρ' σ H' → Q b H') → t σ H Q
def EWM (X : Cx) (LL : List Nat) (Γ : List Kd) (e : Expr) (sem : List D → Option (Bool × List D)) (Γ' : List Kd) : Prop :=
  ∃ t, PW X e t ∧ ∀ P g ρ σ H Q b ρ', Sta X.vm P LL Γ g ρ σ H → sem ρ = some (b, ρ') → (∀ g' H', Step LL g H g' H' → Sta X.vm P LL Γ' g' ρ' σ H' → Q b H') → t σ H Q
def wOrM (a b : List D → Option (Bool × List D)) : List D → Option (Bool × List D) := fun ρ => match a ρ with
  | some (true, ρ') => some (true, ρ')
  | some (false, ρ') => b ρ'
  | none => none
variable {Γ' Γ1 : List Kd}
theorem ewm_or1 {a : Expr} {s : List D → Option (Bool × List D)} (h : ETM X LL Γ a s Γ1) : EWM X LL Γ (.BoolOp .Or [a] pos) s Γ1 := let ⟨t, p, k⟩ := h; ⟨t, pw_or1 p, k⟩
theorem ewm_or {a b : Expr} {rest : List Expr} {s u : List D → Option (Bool × List D)} (m : List (Nat × Nat)) (h : ETM X LL Γ a s Γ1) (h' : EWM X LL Γ1 (.BoolOp .Or (b :: rest) pos) u Γ') (hm : mapOk LL m = true) (hk : kdsLe m Γ1 Γ' = true) : EWM X LL Γ (.BoolOp .Or (a :: b :: rest) pos) (wOrM s u) Γ' := by
  obtain ⟨t, p, k⟩ := h
  obtain ⟨t', p', k'⟩ := h'
  refine ⟨_, pw_or p p', fun P g ρ σ H Q b ρ' st e q => ?_⟩
  unfold wOrM at e
  split at e
  · rename_i ρ2 ea
    cases e
    exact k P g ρ σ H _ true _ st ea fun g1 H1 st1 sta1 => iteT (q _ H1 (st1.trans (.re hm)) (sta1.re hm hk))
  · rename_i ρ2 ea
    exact k P g ρ σ H _ false _ st ea fun g1 H1 st1 sta1 => iteF (k' P g1 _ σ H1 _ b ρ' sta1 e fun g2 H2 st2 sta2 => q g2 H2 (st1.trans st2) sta2)
  · cases e
theorem etm_w {a : Expr} {s : List D → Option (Bool × List D)} (h : EWM X LL Γ a s Γ1) : ETM X LL Γ a s Γ1 := let ⟨t, p, k⟩ := h; ⟨t, p.pt, k⟩
end
def sIfM (c : List D → Option (Bool × List D)) (a : Sv) : Sv := fun ρ => match c ρ with
  | some (true, ρ') => (match a ρ' with | some (.nx _) => none | o => o)
  | some (false, ρ') => some (.nx ρ')
  | none => none
section
variable {X : Cx} {W : L2.WX} {sc : Sc} {Γ Γ' Γ1 Γ2 : List Kd} {pos px : Pos}
/-- if a test that changes the state: what is behind returns -/
theorem sx_ifM {c : Expr} {a : List Stmt} {s : List D → Option (Bool × List D)} {sa : Sv} (hc : ETM X sc.LL Γ c s Γ1) (ha : SS X W sc Γ1 a sa Γ2) : SX X W sc Γ (.If c a [] pos) (sIfM s sa) Γ1 := by
  obtain ⟨t, p, k⟩ := hc
  obtain ⟨ta, pa, ka⟩ := ha
  refine ⟨_, ps_if p pa pss_nil, fun P g ρ σ H o D st e w => ?_⟩
  unfold sIfM at e
  split at e
  · rename_i ρ1 ec
    refine k P g ρ σ H _ true ρ1 st ec fun g1 H1 st1 sta1 => iteT ?_
    cases ea : sa ρ1 with
    | none => rw [ea] at e; cases e
    | some o1 =>
      rw [ea] at e
      refine ka P g1 ρ1 σ H1 o1 D sta1 ea ?_
      cases o1 with
      | nx ρ' => cases e
      | ct ρ' => cases e; exact fun g' σ' H' s' st' => w g' σ' H' (st1.trans s') st'
      | rt d => cases e; exact fun v g' H' s' l r => w v g' H' (st1.trans s') l r
      | ex c' ρ' => cases e; exact fun C g' σ' H' m s' st' => w C g' σ' H' m (st1.trans s') st'
  · rename_i ρ1 ec
    cases e
    refine k P g ρ σ H _ false ρ1 st ec fun g1 H1 st1 sta1 => iteF ?_
    exact w g1 σ H1 st1 sta1
  · cases e
end
end VV

/-! ## VDeskD -/
/-! self.kept[k] = v; defs that change their desk; C() without arguments; a call that is never come to -/
namespace VV
open PySem PySem.Spec PyProof.Rows L2
section
variable {X : Cx} {W : L2.WX} {sc : Sc} {Γ : List Kd} {pos : Pos}
end
/-! ### defs that change their desk -/
section
variable {P : Program} {w : World} {K : PySem.W.Frag} {mg : Str → Option Value} {base : Heap} {x qual : Str} {params : Arguments} {body : List Stmt} {scope : Scope} {f : Addr} {fd : FuncData}
end
section
variable {X : Cx} {W : L2.WX} {LL : List Nat} {Γ : List Kd} {pos p : Pos} {k : Nat} {ps : List Str}
end
end VV

/-! ## VDeskE -/
/-! the desk's dicts; what is never come to -/
namespace VV
open PySem PySem.Spec PyProof.Rows L2
end VV

/-! ## VLcH -/
/-! x = [.. for .. in a list if ..] while an exception is handled -/
namespace VV
open PySem PySem.Spec PyProof.Rows L2 HotX
structure TurnP (P : Program) (w : World) (K : PySem.W.Frag) (tg : Expr) (J : It) (fp : List Addr) (it : Addr) (tn : Nat → Heap → Prop) : Prop where
  mem : it ∈ fp
  obj : ∀ i h, tn i h → ∀ b ∈ fp, ∃ o, h.get? b = some o ∧ ∀ v, o.data ≠ .cell v
  keep : ∀ i h h', tn i h → (∀ b ∈ fp, ∀ o, h.get? b = some o → h'.get? b = some o) → tn i h'
  item : ∀ (X : Cx), X.prog = P → X.w = w → X.K = K → ∀ (i : Nat) (pins : List (Addr × Obj)) (s : Shared) (σ : L2.St) (H : Hp) (E : Value → Shared → Prop), Inv X pins σ H s → (∀ b ∈ fp, FpOk X pins H b) → tn i s.heap → J.go i H →
    wpAny (model P w) X.A (pyNext (.ref it)) (fun r s1 => ∃ u, r = some u ∧
      wpAny (model P w) X.A (letOwnedTupleGo tg (.ref it) u) (fun _ s2 => ∃ x H', Inv X pins σ H' s2 ∧ RelV x u ∧ J.yld i H x H' ∧ tn (i + 1) s2.heap ∧ ∀ b ∈ fp, H' b = none) E s1) E s
  done : ∀ (X : Cx), X.prog = P → X.w = w → X.K = K → ∀ (i : Nat) (pins : List (Addr × Obj)) (s : Shared) (σ : L2.St) (H : Hp) (E : Value → Shared → Prop), Inv X pins σ H s → (∀ b ∈ fp, FpOk X pins H b) → tn i s.heap → J.stop i H → (∃ x1, HotAt X.A x1 s.heap ∧ ∀ b ∈ fp, x1 ≠ b) →
    wpAny (model P w) X.A (pyNext (.ref it)) (fun r s1 => r = none ∧ Inv X pins σ H s1) E s
  self : ∀ (A : Around) (i : Nat) (s : Shared) (Q : Value → Shared → Prop) (E : Value → Shared → Prop), tn i s.heap → Q (.ref it) s → wpAny (model P w) A (pyIter (.ref it)) Q E s
def PIEP (X : Cx) (pins : List (Addr × Obj)) (σ : L2.St) (tg : Expr) (R : It → Hp → Prop) (itv : Value) (s2 : Shared) : Prop :=
  ∃ (it : Addr) (fp : List Addr) (tn : Nat → Heap → Prop) (J : It) (H' : Hp), itv = .ref it ∧ Inv X pins σ H' s2 ∧ TurnP X.prog X.w X.K tg J fp it tn ∧ tn 0 s2.heap ∧ (∀ b ∈ fp, FpOk X pins H' b) ∧ R J H'
structure PIP (X : Cx) (tg iter : Expr) (wi : TI) : Prop where
  run : ∀ (pins : List (Addr × Obj)) (s : Shared) (σ : L2.St) (H : Hp) (R : It → Hp → Prop), Inv X pins σ H s → wi σ H R →
    wpAny (model X.prog X.w) X.A (eval iter X.env) (fun v s1 => wpAny (model X.prog X.w) X.A (pyIter v) (PIEP X pins σ tg R) X.xe s1) X.xe s
section
variable {X : Cx}
end
section
variable {X : Cx} {W : L2.WX} {LL : List Nat} {Γ Γ1 : List Kd} {pos : Pos}
end
end VV

/-! ## VParT -/
/-! a, b = x, y: two local names, things -/
namespace VV
open PySem PySem.Spec PyProof.Rows L2
section
variable {X : Cx} {W : L2.WX} {sc : Sc} {Γ : List Kd} {pos : Pos}
end
end VV

/-! ## VLcS -/
/-! x = [f(..) for .. in ..] on one line, f may raise -/
namespace VV
open PySem PySem.Spec PyProof.Rows L2
section
variable {M : Model} {A : Around} {E : Value → Shared → Prop} {s : Shared} {env : Env}
end
section
variable {X : Cx} {W : L2.WX}
end
section
variable {X : Cx} {W : L2.WX} {Γ Γ1 : List Kd} {pos : Pos}
end
end VV

/-! ## VExcH -/
/-! defs of the exception that is handled, which are told so -/
namespace VV
open PySem PySem.Spec PyProof.Rows L2
section
variable {P : Program} {w : World} {K : PySem.W.Frag} {mg : Str → Option Value} {base : Heap} {x qual px : Str} {params : Arguments} {body : List Stmt} {scope : Scope} {f : Addr} {fd : FuncData} {L : List Str}
end
section
variable {X : Cx} {L : List Str} {LL : List Nat} {Γ : List Kd} {a : Addr} {oe : Obj} {c : Str} {C : Addr} {pos p tp : Pos}
end
end VV

/-! ## VLamA -/
namespace VV
open PySem PySem.Spec PyProof.Rows L2
/-! ### what is fixed at a call: all that stands untracked and is no frame -/
def hidB (h : Heap) (H : Hp) (l : List Env) : Heap := PySem.W.hideAll h (trk h H ++ frs l)
theorem hidB_size (h : Heap) (H : Hp) (l : List Env) : (hidB h H l).objs.size = h.objs.size := PySem.W.hideAll_size _ _
theorem hidB_get {h : Heap} {H : Hp} {l : List Env} {b : Addr} {o : Obj} (e : h.get? b = some o) (n : H b = none) (hf : b ∉ frs l) : (hidB h H l).get? b = some o :=
  PySem.W.hideAll_get _ e fun hm => by
    rcases List.mem_append.mp hm with hm | hm
    · have q : (H b).isSome = true := (List.mem_filter.mp hm).2
      rw [n] at q; simp at q
    · exact hf hm
theorem of_hidB {h : Heap} {H : Hp} {l : List Env} {b : Addr} {o : Obj} (e : (hidB h H l).get? b = some o) : h.get? b = some o ∧ H b = none ∧ b ∉ frs l := by
  have e' : h.get? b = some o := PySem.W.of_hideAll (trk h H ++ frs l) e
  have key : b ∉ trk h H ++ frs l := fun hm => by
    have z : (hidB h H l).get? b = none := PySem.W.hideAll_none _ hm
    rw [z] at e; cases e
  refine ⟨e', ?_, fun hm => key (List.mem_append_right _ hm)⟩
  cases q : H b with
  | none => rfl
  | some x => exact absurd (List.mem_append_left _ (List.mem_filter.mpr ⟨List.mem_range.mpr (Heap.lt_size e'), by simp [q]⟩)) key
theorem hidB_frame {h : Heap} {H : Hp} {l : List Env} {b : Addr} (hb : b ∈ frs l) : (hidB h H l).get? b = none := PySem.W.hideAll_none _ (List.mem_append_right _ hb)
theorem funs_to {h base base' : Heap} : ∀ {l : List Env}, h.FunFrames base l → (∀ b ∈ frs l, base'.get? b = none) → h.FunFrames base' l
  | [], _, _ => trivial
  | env :: r, ⟨hk, ⟨L, o, hf, hn, ho, hd⟩, hr⟩, q => by
    refine ⟨hk, ⟨L, o, hf, q L ?_, ho, hd⟩, funs_to hr fun b hb => q b ?_⟩
    · unfold frs; rw [List.filterMap_cons, hf]; exact List.mem_cons_self
    · unfold frs at hb ⊢; rw [List.filterMap_cons, hf]; exact List.mem_cons_of_mem _ hb
theorem mod_to {K : PySem.W.Frag} {mg : Str → Option Value} {base base' : Heap} (m : L2.Mod K mg base) (k : ∀ b o, base.get? b = some o → base'.get? b = some o) : L2.Mod K mg base' := by
  have ns : ∀ {b : Addr} {m : Str → Option Value}, base.Ns b m → base'.Ns b m := fun {b m} ⟨o, es, ep, e, d, r⟩ => ⟨o, es, ep, k _ _ e, d, r⟩
  obtain ⟨h1, h2, ⟨mb, h3, h4⟩, h5⟩ := m
  exact ⟨fun b o e => k b o (h1 b o e), ns h2, ⟨mb, ns h3, h4⟩, let ⟨mc, h1, h2⟩ := h5; ⟨mc, ns h1, h2⟩⟩
section
variable {X : Cx} {pins : List (Addr × Obj)} {σ : List (Option V)} {H : Hp} {s : Shared}
theorem inv_base (I : Inv X pins σ H s) : ∀ b o, X.base.get? b = some o → (hidB s.heap H X.stack).get? b = some o := fun b o e =>
  hidB_get (I.bs b o e).1 (I.bs b o e).2 fun hb => by
    have z := (I.stack.mem hb).1
    rw [e] at z; cases z
theorem inv_env0B (I : Inv X pins σ H s) : Env0 X.prog X.w X.K X.mg (hidB s.heap H X.stack) X.A X.stack s H :=
  ⟨I.ok.frames, mod_to I.mod (inv_base I), fun b o e => ⟨(of_hidB e).1, (of_hidB e).2.1⟩, Nat.le_of_eq (hidB_size _ _ _), funs_to I.stack fun b hb => hidB_frame hb, I.stkFree, I.hok, I.bare⟩
end

/-! ### a lambda, as a def -/
structure LamSc (scope : Scope) (fvs ps : List Str) : Prop where
  kind : scope.kind = .function
  co : scope.isCoroutine = false
  gen : scope.isGenerator = false
  nocell : ∀ y ∈ scope.names, y.2 ≠ .cell
  par : ∀ x ∈ ps, scope.names.lookup x = some .local
  fre : ∀ x ∈ fvs, scope.names.lookup x = some .free
  nd : ps.Nodup
structure LamAt (base : Heap) (x : LamId) (params : Arguments) (body : Expr) (scope : Scope) (cl : List (Str × Addr)) (fvs : List Str) : Prop where
  obj : ∃ (pm ctv : Value), base.get? x.f = some (PySem.W.kla_obj "<lambda>" x.q params body scope cl pm x.c ctv)
  len : x.vs.length = fvs.length
  cells : ∀ (i : Nat) (y : Str) (v : V), fvs[i]? = some y → x.vs[i]? = some v → ∃ c u, cl.lookup y = some c ∧ base.IsCell c (some u) ∧ RelV v u
  all : ∀ y c, cl.lookup y = some c → ∃ v, base.IsCell c v
  inj : ∀ y z c, cl.lookup y = some c → cl.lookup z = some c → y = z
  has : ∀ y, scope.names.lookup y = some .free → ∃ c, cl.lookup y = some c
def lamC (P : Program) (w : World) (K : PySem.W.Frag) (mg : Str → Option Value) (base : Heap) (N : List Str) (x : LamId) (scope : Scope) (cl : List (Str × Addr)) (A : Around) (outer : List Env) (s : Shared) (H : Hp) (E : XK) : Cx where
  prog := P
  w := w
  K := K
  mg := mg
  base := base
  A := A.deeper (PySem.W.envX x.q scope s.heap.objs.size x.f (.ref x.c) cl)
  N := N
  s_0 := s
  H_0 := H
  env := PySem.W.envX x.q scope s.heap.objs.size x.f (.ref x.c) cl
  outer := outer
  stack := PySem.W.envX x.q scope s.heap.objs.size x.f (.ref x.c) cl :: outer
  ex := []
  fn := fun _ => false
  calm := true
  pn := []
  xe := fun e s' => wpAny (model P w) (A.deeper (PySem.W.envX x.q scope s.heap.objs.size x.f (.ref x.c) cl)) (leaving (PySem.W.envX x.q scope s.heap.objs.size x.f (.ref x.c) cl) e) (fun _ s'' => CX0 outer H s E e s'') (fun e' s'' => CX0 outer H s E e' s'') s'
theorem lookup_nd {β : Type} {x : Str} {b : β} : ∀ {l : List (Str × β)}, (l.map (·.1)).Nodup → (x, b) ∈ l → l.lookup x = some b
  | [], _, h => nomatch h
  | (y, c) :: r, n, h => by
    rw [List.map_cons, List.nodup_cons] at n
    rw [List.lookup_cons]
    rcases List.mem_cons.mp h with e | e
    · cases e; simp
    · have : (x == y) = false := by
        rw [beq_eq_false_iff_ne]
        rintro rfl
        exact n.1 (List.mem_map.mpr ⟨_, e, rfl⟩)
      rw [this]
      exact lookup_nd n.2 e
theorem zip_look {ps : List Str} {us : List Value} {j : Nat} {y : Str} {u : Value} (n : ps.Nodup) (h1 : ps[j]? = some y) (h2 : us[j]? = some u) (hl : us.length = ps.length) : (ps.zip us).reverse.lookup y = some u := by
  refine lookup_nd ?_ (List.mem_reverse.mpr (List.mem_of_getElem? (i := j) ?_))
  · rw [List.map_reverse, (show (ps.zip us).map (·.1) = ps from by rw [List.map_fst_zip (by omega)])]
    exact (List.reverse_perm ps).nodup_iff.mpr n
  · rw [List.getElem?_zip_eq_some]
    exact ⟨h1, h2⟩
section
variable {P : Program} {w : World} {K : PySem.W.Frag} {mg : Str → Option Value} {base : Heap}
theorem inv_lam {A : Around} {outer : List Env} {s : Shared} {H : Hp} {E : XK} {x : LamId} {params : Arguments} {body : Expr} {scope : Scope} {cl : List (Str × Addr)} {fvs ps : List Str} {us : List Value} {vs : List V} {h₁ : Heap} {tk : Nat}
    (LA : LamAt base x params body scope cl fvs) (S : LamSc scope fvs ps) (e0 : Env0 P w K mg base A outer s H) (hd : A.handled = none) (r : Vals vs us) (hl : vs.length = ps.length)
    (hns : h₁.Ns s.heap.objs.size fun y => (ps.zip us).reverse.lookup y) (kp : ∀ b o, s.heap.get? b = some o → h₁.get? b = some o) :
    Inv (lamC P w K mg base (fvs ++ ps) x scope cl A outer s H E) [] ((x.vs ++ vs).map some) H { s with heap := h₁, toks := tk } := by
  have bk : ∀ b o, base.get? b = some o → h₁.get? b = some o := fun b o e => kp b o (e0.bs b o e).1
  have cellK : ∀ {c : Addr} {v : Option Value}, base.IsCell c v → h₁.IsCell c v := fun {c v} ⟨o, ho, hd⟩ => ⟨o, bk _ _ ho, hd⟩
  have cellF : ∀ {c : Addr} {v : Option Value}, base.IsCell c v → H c = none := fun {c v} ⟨o, ho, hd⟩ => (e0.bs _ _ ho).2
  have noA : ∀ b : Addr, b ∉ (lamC P w K mg base (fvs ++ ps) x scope cl A outer s H E).ex := fun b z => absurd (show b ∈ ([] : List Addr) from z) (by simp)
  refine ⟨⟨e0.mod, S.kind, rfl, rfl, Nat.le_refl _, LA.inj, fun y hy => ?_, fun y c z _ => ?_, fun _ => hd, Around.frames_deeper e0.frames, .inr ⟨rfl, rfl⟩, fun b z => absurd z (noA b), e0.bs, e0.bsz, fun b _ _ => noA b,
      fun b z => absurd z (noA b), e0.funs, e0.frf⟩,
    rfl, e0.bare, Un.kept kp, ⟨_, hns, fun i y v e1 e2 e3 => ?_⟩, fun y c e => ?_, e0.hok.fresh (Nat.le_refl _), fun y c e => ?_, fun q hq => absurd (show q ∈ ([] : List (Addr × Obj)) ++ [] from hq) (by simp), e0.hok.kept kp, ?_⟩
  · have hy : scope.names.lookup y = some .cell ∨ scope.names.lookup y = some .free := hy
    rcases hy with hy | hy
    · exact absurd rfl (S.nocell _ (PySem.mem_of_lookup hy))
    · exact LA.has y hy
  · have z : false = true := z
    cases z
  · have e1 : (fvs ++ ps)[i]? = some y := e1
    rw [List.getElem?_map] at e2
    by_cases hi : i < fvs.length
    · rw [List.getElem?_append_left hi] at e1
      rw [List.getElem?_append_left (by rw [LA.len]; exact hi)] at e2
      cases q : x.vs[i]? with
      | none => rw [q] at e2; cases e2
      | some v' =>
        rw [q] at e2
        cases e2
        obtain ⟨c, u, h1, h2, h3⟩ := LA.cells i y _ e1 q
        exact ⟨u, h3, .inr ⟨.inr (S.fre y (List.mem_of_getElem? e1)), c, h1, cellK h2⟩⟩
    · rw [List.getElem?_append_right (by omega)] at e1
      rw [List.getElem?_append_right (by rw [LA.len]; omega), LA.len] at e2
      cases q : vs[i - fvs.length]? with
      | none => rw [q] at e2; cases e2
      | some v' =>
        rw [q] at e2
        cases e2
        obtain ⟨u, hu, rv⟩ := r.get q
        exact ⟨u, rv, .inl ⟨S.par y (List.mem_of_getElem? e1), zip_look S.nd e1 hu (by rw [← r.length]; exact hl)⟩⟩
  · obtain ⟨v, h⟩ := LA.all y c e
    exact ⟨v, cellK h⟩
  · obtain ⟨v, h⟩ := LA.all y c e
    exact cellF h
  · show _ = (fvs ++ ps).length
    rw [List.length_map, List.length_append, List.length_append, LA.len, hl]
theorem rd_code {H : Hp} {s : Shared} {c : Addr} {q : Str} (h : HOk P w H s.heap) (r : Rd H c (LamX.CodeO c q)) : s.heap.CodeRec (.ref c) q := by
  have key : ∃ (oc : Obj) (vs : Array Value) (t : Tok), s.heap.get? c = some oc ∧ oc.data = .fields vs ∧ vs[1]? = some (.str q t) := by
    rcases r with r | ⟨o, r⟩
    · exact (h c _ r).1
    · exact (h c _ r).2.1
  obtain ⟨oc, vs, t, h1, h2, h3⟩ := key
  exact ⟨c, oc, vs, t, rfl, h1, h2, h3⟩
/-- what a lambda promises: it is handed flat things -/
def spLam (mg : Mg) (x : LamId) (pk : List Kd) (sem : Ev) (n : Nat) (R : Rm) : Sp := fun us H Q _ => us.length = n ∧ ∃ dsc fpc ds d, Rd H x.c (LamX.CodeO x.c x.q) ∧ RepL mg H dsc x.vs fpc ∧ RepL mg H ds us [] ∧ pkOk pk (dsc ++ ds) = true ∧ sem (dsc ++ ds) = some d ∧
  ∀ v H', Ext H H' → RF mg H H' [] R d v → Q v H'
def lamMd : Rm → Md → Bool
  | .flat, .flat => true
  | .fresh, .al _ .new [] true => true
  | .fresh, .al _ .unk [] true => true
  | _, _ => false
theorem lam_rf {mg : Mg} {F : List Addr} {H H' : Hp} {R : Rm} {m : Md} {d : D} {v : V} (h : lamMd R m = true) (w : Val mg ⟨fun a => a ∈ F, fun _ => False⟩ (fun _ => 0) H H' m d v) : RF mg H H' [] R d v := by
  have key : ∀ fr, m.unroot = .al fr .unk [] true → RF mg H H' [] .fresh d v := fun fr e => by
    obtain ⟨fp, r, o⟩ := w.unroot
    rw [e] at o
    refine ⟨fp, r, o.2 rfl, fun a ha => ?_⟩
    rcases o.1 a ha with ⟨_, n⟩ | q
    · exact n
    · exact nomatch q.1
  unfold lamMd at h
  split at h
  · exact w
  · exact key _ rfl
  · exact key _ rfl
  · cases h
theorem lam_fn {k : Nat} {x : LamId} {params : Arguments} {body : Expr} {scope : Scope} {cl : List (Str × Addr)} {fvs ps : List Str} {pk : List Kd} {sem : Ev} {R : Rm} {m : Md} (LA : LamAt base x params body scope cl fvs) (S : LamSc scope fvs ps) (hm : lamMd R m = true)
    (hbody : ∀ (A : Around) (outer : List Env) (s : Shared) (H : Hp) (E : XK), Room k (A.deeper (PySem.W.envX x.q scope s.heap.objs.size x.f (.ref x.c) cl)) → EX (lamC P w K mg base (fvs ++ ps) x scope cl A outer s H E) [] pk body sem m) :
    ∃ fd : FuncData, (∃ oc od sl, base.get? x.f = some ⟨oc, od, .func fd, sl⟩) ∧ (∃ (pm ctv : Value), fd = PySem.W.kla_fn "<lambda>" x.q params body scope cl pm (.ref x.c) ctv) ∧ FnOk P w K mg base CX0 (k + 1) x.f fd ps (spLam ⟨mg, K⟩ x pk sem ps.length R) := by
  obtain ⟨pm, ctv, ho⟩ := LA.obj
  refine ⟨_, ⟨_, _, _, ho⟩, ⟨pm, ctv, rfl⟩, ⟨fun vs H Q E h => h.1, fun A outer s H args us vs Q E hr e0 hb r hsp => ?_⟩⟩
  obtain ⟨hl, dsc, fpc, ds, d, hc, rc, ra, hpk, hd, q⟩ := hsp
  have lim : s.heap.NoLimit := e0.mod.nolimit.keeps fun b o e => (e0.bs b o e).1
  refine PySem.W.kla_callFunE hr.depth (e0.bs _ _ ho).1 rfl S.co S.gen rfl (rd_code e0.hok hc) (hb _ _ _ _ ?_)
  have hul : us.length = ps.length := by rw [← r.length]; exact hl
  refine wpAny_newFunctionEnv S.nocell (fun y hy => S.par _ (List.of_mem_zip hy).1) (fun h₁ hns hsb => ⟨lim.fresh _ hsb, ?_⟩) S.kind
  show codeAny _ _ (.expr body (PySem.W.envX x.q scope s.heap.objs.size x.f (.ref x.c) cl)) _ _
  have kp : ∀ b o, s.heap.get? b = some o → h₁.get? b = some o := fun b o e => hsb.extBut b o (Nat.ne_of_lt (Heap.lt_size e)) (Heap.get?_push_of_some _ e)
  have J : Inv (lamC P w K mg base (fvs ++ ps) x scope cl A outer s H E) [] ((x.vs ++ vs).map some) H { s with heap := h₁, toks := s.toks + (ps.zip us).length } := inv_lam LA S e0 hr.hd r hl hns kp
  obtain ⟨t, pt, kk⟩ := hbody A outer s H E (hr.deeper _)
  have rep : RepL ⟨mg, K⟩ H (dsc ++ ds) (x.vs ++ vs) fpc := by
    have := rc.append ra
    rwa [List.append_nil] at this
  have st : Sta ⟨mg, K⟩ ⟨fun a => a ∈ fpc, fun _ => False⟩ [] pk (fun _ => 0) (dsc ++ ds) ((x.vs ++ vs).map some) H := by
    refine ⟨loc_start rep.there, ?_⟩
    have := cells_start (F := fpc) 0 hpk rep fun a ha => ha
    simpa using this
  refine PySem.W.kla_codeExpr (wpAny_mono (pt.run [] _ _ H (fun v H' => Q v H') J (kk _ _ _ _ _ d _ st hd fun v H' x vl => q v H' x (lam_rf hm vl))) (fun v s' hq => ?_) fun e s' hq => hq)
  obtain ⟨w', H', J', rv, q⟩ := hq
  exact ⟨w', H', J'.os, J'.bare, J'.base, J'.hok, rv, q⟩
end
end VV

/-! ## VLamB -/
namespace VV
open PySem PySem.Spec PyProof.Rows L2
/-! ### a lambda called by its slot -/
open Classical in
/-- the trees that it has captured, if it is x -/
noncomputable def eClo (x : LamId) (pk : List Kd) (sem : Ev) (i : Nat) (a : List D → Option (List D)) : Ev := fun ρ => do
  let ds ← a ρ
  match ρ[i]? with
  | some (.clo y dsc) => if y = x ∧ pkOk pk (dsc ++ ds) = true then sem (dsc ++ ds) else none
  | _ => none
section
variable {X : Cx} {LL : List Nat} {Γ : List Kd} {pos p : Pos} {x : LamId} {kk i : Nat} {fd : FuncData} {ps : List Str} {pk : List Kd} {sem : Ev} {R : Rm} {a : Str} {k : Kd}
theorem fnAt_base {pins : List (Addr × Obj)} {σ : L2.St} {H : Hp} {s : Shared} (hf : ∃ oc od sl, X.base.get? x.f = some ⟨oc, od, .func fd, sl⟩) (I : Inv X pins σ H s) : PySem.W.FnAt x.f s.heap := by
  obtain ⟨oc, od, sl, h⟩ := hf
  exact ⟨oc, od, fd, sl, I.bk _ _ h⟩
theorem ex_clo {e : Expr} {es : List Expr} {ar : List D → Option (List D)} (hf : ∃ oc od sl, X.base.get? x.f = some ⟨oc, od, .func fd, sl⟩) (F : FnOk X.prog X.w X.K X.mg X.base CX0 kk x.f fd ps (spLam X.vm x pk sem ps.length R)) (hr : Room kk X.A)
    (hb : ∀ us : List Value, us.length = ps.length → bindArgs fd ⟨us, []⟩ = pure (ps.zip us)) (hk : Γ[i]? = some k) (hu : k.use = true) (hN : X.N[i]? = some a) (hv : Vis X.env.scope a) (ha : EA X LL Γ (e :: es) ar .flat) (hn : (e :: es).length = ps.length := by rfl)
    (hd : (a == ("__debug__" : Str)) = false := by decide) (hcd : (a == ("__classdict__" : Str)) = false := by decide) (he : starEach (e :: es) X.env = (false, eval e X.env) :: starEach es X.env := by rfl) (hpl : (backTo pos (starEach es X.env)).any (·.1) = false := by rfl) :
    EX X LL Γ (.Call (.Name a p) (e :: es) [] pos) (eClo x pk sem i ar) (R.md .flat) := by
  obtain ⟨hl, t, pt, kq⟩ := ha
  refine ⟨fun σ H Q => σ[i]? = some (some (.ref x.f)) ∧ t σ H fun vs H1 => spLam X.vm x pk sem ps.length R vs H1 Q (fun _ _ _ => False), ⟨fun pins s σ H Q I h => ?_⟩, fun P g ρ σ H d Q s e0 q => ?_⟩
  · obtain ⟨hs, ht⟩ := h
    refine wpAny_Call_Name_kw (thn ((pe_var (pos := p) (i := i) hN hv hd hcd).run pins s σ H (fun v H1 => v = .ref x.f ∧ H1 = H) I ⟨.ref x.f, hs, rfl, rfl⟩) fun u s1 ⟨v, H1, I1, r1, q1⟩ => ?_)
    obtain ⟨ev, eH⟩ := q1
    subst ev
    rw [eH] at I1
    obtain rfl : u = Value.ref x.f := r1
    refine PySem.W.callWith_F (fnAt_base hf I1) (thn (pt.run pos pins s1 σ H _ I1 ht) fun us s2 ⟨vs, H2, I2, r, q⟩ => ⟨fnAt_base hf I2, ?_⟩) he hpl
    exact run_fn (ds := []) (dvs := []) F hr (.all hb) .nil pass0 I2 r (by rw [List.append_nil]; exact q)
  · obtain ⟨ds, e1, e2⟩ := bind_some e0
    obtain ⟨d', ov, h1, h2, h3⟩ := s.cells.get hk
    rw [h1] at e2
    cases d' with
    | clo y dsc =>
      dsimp only at e2
      split at e2
      · rename_i hc
        obtain ⟨rfl, hpk⟩ := hc
        have key : ∃ v fp, ov = some v ∧ Rep X.vm H (.clo y dsc) v fp := by
          cases k with
          | dead => cases hu
          | exc _ _ => cases hu
          | ob _ _ => cases hu
          | dk _ _ _ _ => cases hu
          | pr _ _ _ => cases hu
          | ow _ _ _ => cases hu
          | flat => obtain ⟨v, rfl, r⟩ := h3; exact ⟨v, _, rfl, r⟩
          | lab rt L nd => obtain ⟨v, fp, rfl, r, _⟩ := h3; exact ⟨v, _, rfl, r⟩
        obtain ⟨v, fp, rfl, r⟩ := key
        simp only [Rep] at r
        obtain ⟨f, rfl, rc, rl, _⟩ := r
        refine ⟨h2, kq P g ρ σ H ds _ s e1 fun vs H1 x1 vl => ?_⟩
        obtain ⟨fa, ra, of⟩ := vl
        obtain rfl : fa = [] := of
        refine ⟨by rw [ra.length, hl ρ ds e1]; exact hn, dsc, f, ds, d, x1.rd rc, rl.ext x1, ra, hpk, e2, fun v H2 x2 rf => ?_⟩
        exact q v H2 (x1.trans x2) (rf_val x1 x2 (m := .flat) rfl rf)
      · cases e2
    | _ => cases e2
theorem ex_clo0 (hf : ∃ oc od sl, X.base.get? x.f = some ⟨oc, od, .func fd, sl⟩) (F : FnOk X.prog X.w X.K X.mg X.base CX0 kk x.f fd [] (spLam X.vm x pk sem 0 R)) (hr : Room kk X.A)
    (hb : ∀ us : List Value, us.length = 0 → bindArgs fd ⟨us, []⟩ = pure []) (hk : Γ[i]? = some k) (hu : k.use = true) (hN : X.N[i]? = some a) (hv : Vis X.env.scope a)
    (hd : (a == ("__debug__" : Str)) = false := by decide) (hcd : (a == ("__classdict__" : Str)) = false := by decide) :
    EX X LL Γ (.Call (.Name a p) [] [] pos) (eClo x pk sem i aNil) (R.md .flat) := by
  refine ⟨fun σ H Q => σ[i]? = some (some (.ref x.f)) ∧ spLam X.vm x pk sem 0 R [] H Q (fun _ _ _ => False), ⟨fun pins s σ H Q I h => ?_⟩, fun P g ρ σ H d Q s e0 q => ?_⟩
  · obtain ⟨hs, ht⟩ := h
    refine wpAny_Call_Name_kw (thn ((pe_var (pos := p) (i := i) hN hv hd hcd).run pins s σ H (fun v H1 => v = .ref x.f ∧ H1 = H) I ⟨.ref x.f, hs, rfl, rfl⟩) fun u s1 ⟨v, H1, I1, r1, q1⟩ => ?_)
    obtain ⟨ev, eH⟩ := q1
    subst ev
    rw [eH] at I1
    obtain rfl : u = Value.ref x.f := r1
    refine PySem.W.callWith_F0 (fnAt_base hf I1) ?_
    exact run_fn (us := []) (ds := []) (dvs := []) F hr (.all fun us hl => by rw [hb us hl]; cases us <;> rfl) .nil pass0 I1 .nil ht
  · obtain ⟨ds, e1, e2⟩ := bind_some e0
    cases e1
    obtain ⟨d', ov, h1, h2, h3⟩ := s.cells.get hk
    rw [h1] at e2
    cases d' with
    | clo y dsc =>
      dsimp only at e2
      split at e2
      · rename_i hc
        obtain ⟨rfl, hpk⟩ := hc
        have key : ∃ v fp, ov = some v ∧ Rep X.vm H (.clo y dsc) v fp := by
          cases k with
          | dead => cases hu
          | exc _ _ => cases hu
          | ob _ _ => cases hu
          | dk _ _ _ _ => cases hu
          | pr _ _ _ => cases hu
          | ow _ _ _ => cases hu
          | flat => obtain ⟨v, rfl, r⟩ := h3; exact ⟨v, _, rfl, r⟩
          | lab rt L nd => obtain ⟨v, fp, rfl, r, _⟩ := h3; exact ⟨v, _, rfl, r⟩
        obtain ⟨v, fp, rfl, r⟩ := key
        simp only [Rep] at r
        obtain ⟨f, rfl, rc, rl, _⟩ := r
        refine ⟨h2, rfl, dsc, f, [], d, rc, rl, by simp [RepL], hpk, e2, fun v H2 x2 rf => ?_⟩
        exact q v H2 x2 (rf_val Ext.refl x2 (m := .flat) rfl rf)
      · cases e2
    | _ => cases e2
end
end VV

/-! ## VLamC -/
namespace VV
open PySem PySem.Spec PyProof.Rows L2
/-! ### a def that makes lambdas: all but its code object's table stays -/
def Kd.lawK : Kd → Bool
  | .dead => true
  | .flat => true
  | .lab _ _ _ => true
  | _ => false
section
variable {mg : Mg} {P : Fm} {LL : List Nat} {Γ : List Kd} {g : Addr → Nat} {ρ : List D} {σ : L2.St} {H H' : Hp}
theorem extN_of {H H' : Hp} (e : Ext H H') : LamX.ExtN H H' := fun b o h _ => e b o h
theorem extN_kpT (e : LamX.ExtN H H') : KpT H H' := ⟨fun a xs r => e a _ r fun _ z => (nomatch z), fun a o vs r => e a _ r fun _ z => (nomatch z), fun a o vs r => e a _ r fun _ z => (nomatch z)⟩
theorem extN_kp (e : LamX.ExtN H H') {a : Addr} {o : HO} (h : H a = some o) (n : ∀ ps, o ≠ .tbl ps) : Kp H H' a := by
  have key : H' a = some o := e a o h n
  refine ⟨fun u _ r => ?_, fun vs r => ?_, fun C dx fs r => ?_⟩
  · unfold Rd at r ⊢
    rw [h] at r
    rw [key]
    exact r
  · rw [h] at r; rw [key]; exact r
  · rw [h] at r; rw [key]; exact r
theorem node_no (l : Loc P LL g H) (no : ∀ a, ¬ P.out a) {L : List Nat} {a : Addr} (o : Old P g L a) : ∃ u, H a = some u ∧ ∀ ps, u ≠ .tbl ps := by
  have hg : g a ≠ 0 := fun z => no a (o.2 z)
  obtain ⟨u, e, m | m⟩ := l.at_ a hg
  · exact ⟨u, e, fun ps z => by rw [z] at m; exact m⟩
  · obtain ⟨⟨o', u', q⟩, _⟩ := l.fz a m
    rw [q] at e; cases e
    exact ⟨_, q, fun ps z => nomatch z⟩
theorem sta_extN (s : Sta mg P LL Γ g ρ σ H) (no : ∀ a, ¬ P.out a) (hΓ : Γ.all Kd.lawK = true) (e : LamX.ExtN H H') : Sta mg P LL Γ g ρ σ H' := by
  refine ⟨⟨fun a h => ?_, fun a h => absurd h (no a), fun a h => ?_⟩, ?_⟩
  · obtain ⟨o, q, m | m⟩ := s.loc.at_ a h
    · exact ⟨o, e a o q fun ps z => by rw [z] at m; exact m, .inl m⟩
    · obtain ⟨⟨o', u', q'⟩, _⟩ := s.loc.fz a m
      exact ⟨_, e a _ q' fun ps z => (nomatch z), .inr m⟩
  · obtain ⟨⟨o, u, q⟩, z⟩ := s.loc.fz a h
    exact ⟨⟨o, u, e a _ q fun ps z => (nomatch z)⟩, z⟩
  · have hl := s.loc
    have hc := s.cells
    clear s
    induction Γ generalizing ρ σ with
    | nil => cases ρ <;> cases σ <;> first | exact hc | exact hc.elim
    | cons k Γ ih =>
      cases ρ with
      | nil => cases σ <;> exact hc.elim
      | cons d ρ =>
        cases σ with
        | nil => exact hc.elim
        | cons v σ =>
          rw [List.all_cons, Bool.and_eq_true] at hΓ
          refine ⟨?_, ih hΓ.2 hc.2⟩
          have c := hc.1
          cases k with
          | dead => trivial
          | flat =>
            obtain ⟨v, rfl, r⟩ := c
            exact ⟨v, rfl, r.keep (fun a ha => nomatch ha) (extN_kpT e)⟩
          | lab rt L nd =>
            obtain ⟨v, fp, rfl, r, o, z⟩ := c
            refine ⟨v, fp, rfl, r.keep (fun a ha => ?_) (extN_kpT e), o, z⟩
            rcases o a ha with ⟨_, n, _, y⟩ | ⟨_, y⟩
            · obtain ⟨u, q, n⟩ := node_no hl no y
              exact extN_kp e q n
            · obtain ⟨u, q, n⟩ := node_no hl no y
              exact extN_kp e q n
          | _ => exact absurd hΓ.1 (by simp [Kd.lawK])
end
structure StaN (mg : Mg) (T : List (Addr × Str)) (P : Fm) (LL : List Nat) (Γ : List Kd) (g : Addr → Nat) (ρ : List D) (σ : L2.St) (H : Hp) : Prop where
  sta : Sta mg P LL Γ g ρ σ H
  no : ∀ a, ¬ P.out a
  tabs : LamX.Tabs T H
theorem StaN.ext {mg : Mg} {T : List (Addr × Str)} {P : Fm} {LL : List Nat} {Γ : List Kd} {g : Addr → Nat} {ρ : List D} {σ : L2.St} {H H' : Hp} (s : StaN mg T P LL Γ g ρ σ H) (e : Ext H H') : StaN mg T P LL Γ g ρ σ H' := ⟨s.sta.ext e, s.no, s.tabs.ext e⟩
def EXL (X : Cx) (T : List (Addr × Str)) (LL : List Nat) (Γ : List Kd) (e : Expr) (sem : Ev) (m : Md) : Prop :=
  ∃ t, PE X e t ∧ ∀ P g ρ σ H d Q, StaN X.vm T P LL Γ g ρ σ H → sem ρ = some d → (∀ v H1 H', LamX.ExtN H H1 → StaN X.vm T P LL Γ g ρ σ H1 → Ext H1 H' → Val X.vm P g H1 H' m d v → Q v H') → t σ H Q
theorem exl_ex {X : Cx} {T : List (Addr × Str)} {LL : List Nat} {Γ : List Kd} {e : Expr} {sem : Ev} {m : Md} (h : EX X LL Γ e sem m) : EXL X T LL Γ e sem m := by
  obtain ⟨t, p, k⟩ := h
  exact ⟨t, p, fun P g ρ σ H d Q s e q => k P g ρ σ H d Q s.sta e fun v H' x vl => q v H H' (LamX.ExtN.refl H) s x vl⟩
/-! ### what a lambda captures -/
def capD : List Nat → List D → Option (List D)
  | [], _ => some []
  | j :: js, ρ => do
    let d ← ρ[j]?
    let ds ← capD js ρ
    some (d :: ds)
def Kd.capt : Kd → Bool
  | .flat => true
  | .lab _ _ _ => true
  | _ => false
theorem cap_ok {mg : Mg} {P : Fm} {LL : List Nat} {Γ : List Kd} {g : Addr → Nat} {ρ : List D} {σ : L2.St} {H : Hp} (s : Sta mg P LL Γ g ρ σ H) : ∀ {js : List Nat} {ds : List D}, capD js ρ = some ds → (js.all fun j => ((Γ[j]?).map Kd.capt).getD false) = true →
    ∃ vs fp, RepL mg H ds vs fp ∧ vs.length = js.length ∧ ∀ (i j : Nat), js[i]? = some j → ∃ v, vs[i]? = some v ∧ σ[j]? = some (some v)
  | [], _, e, _ => by
    cases e
    exact ⟨[], [], by simp [RepL], rfl, fun i j h => by simp at h⟩
  | j :: js, _, e, h => by
    obtain ⟨d, e1, e⟩ := bind_some e
    obtain ⟨ds, e2, e⟩ := bind_some e
    cases e
    rw [List.all_cons, Bool.and_eq_true] at h
    obtain ⟨vs, fp, r, hl, hv⟩ := cap_ok s e2 h.2
    have key : ∃ v f, σ[j]? = some (some v) ∧ Rep mg H d v f := by
      have h1 := h.1
      cases hk : Γ[j]? with
      | none => rw [hk] at h1; cases h1
      | some k =>
        rw [hk] at h1
        obtain ⟨d', ov, g1, g2, g3⟩ := s.cells.get hk
        rw [e1] at g1; cases g1
        cases k with
        | flat => obtain ⟨v, rfl, r⟩ := g3; exact ⟨v, _, g2, r⟩
        | lab rt L nd => obtain ⟨v, fp, rfl, r, _⟩ := g3; exact ⟨v, _, g2, r⟩
        | _ => cases h1
    obtain ⟨v, f, hσ, rv⟩ := key
    refine ⟨v :: vs, f ++ fp, ?_, by simp [hl], fun i j' hi => ?_⟩
    · simp only [RepL]
      exact ⟨v, vs, f, fp, rfl, rv, r, rfl⟩
    · cases i with
      | zero => simp at hi; subst hi; exact ⟨v, rfl, hσ⟩
      | succ i => simp at hi; obtain ⟨w, h1, h2⟩ := hv i j' hi; exact ⟨w, by simpa using h1, h2⟩
/-! ### a lambda is made -/
/-- the def in which lambdas are made: its code object, its table -/
structure LawC (X : Cx) (T : List (Addr × Str)) (c P : Addr) : Prop where
  tb : LamX.TabB X.base X.mg c P
  code : X.env.code = .ref c
  mem : (P, X.env.qual ++ "<lambda>") ∈ T
  one : ∀ p ∈ T, p.1 = P → p.2 = X.env.qual ++ "<lambda>"
  fn : ∀ y, X.fn y = true
structure LamP (X : Cx) (params : Arguments) (body : Expr) (scope : Scope) (fvs ps : List Str) (js : List Nat) : Prop where
  sc : LamSc scope fvs ps
  dfl : defaultsOf params X.env = ([], [])
  fre : ∀ y ∈ scope.names, y.2 = .free → X.env.scope.names.lookup y.1 = some .cell
  len : js.length = fvs.length
  nm : ∀ (i j : Nat) (y : Str), js[i]? = some j → fvs[i]? = some y → X.N[j]? = some y
  bind : ∀ (q : Str) (cl : List (Str × Addr)) (pm cv ctv : Value) (us : List Value), us.length = ps.length → bindArgs (PySem.W.kla_fn "<lambda>" q params body scope cl pm cv ctv) ⟨us, []⟩ = pure (ps.zip us)
section
variable {X : Cx} {pins : List (Addr × Obj)} {σ : L2.St} {H : Hp} {s : Shared} {T : List (Addr × Str)} {c Pt : Addr} {params : Arguments} {body : Expr} {scope : Scope} {fvs ps : List Str} {js : List Nat}
theorem pin_more {a : Addr} {o : Obj} (I : Inv X pins σ H s) (h1 : s.heap.get? a = some o) (h2 : H a = none) (h3 : a ≠ X.env.locals) (h4 : a ∉ X.fs) (h5 : ∀ v, o.data ≠ .cell v) : Inv X ((a, o) :: pins) σ H s := by
  refine I.pins_of fun p hp => ?_
  rcases List.mem_cons.mp hp with rfl | hp
  · exact ⟨h1, h2, h3, h4, h5⟩
  · exact I.pin p (List.mem_append_right _ hp)
theorem pin_less {p : Addr × Obj} (I : Inv X (p :: pins) σ H s) : Inv X pins σ H s := I.pins_of fun q hq => I.pin q (List.mem_append_right _ (List.mem_cons_of_mem _ hq))
theorem fs_stack (I : Inv X pins σ H s) {b : Addr} (h : b ∉ frs X.stack) : b ∉ X.fs := fun hb => by
  rcases I.ok.stk with e | ⟨e, hf⟩
  · rw [e] at h; exact h hb
  · rw [e] at h
    refine h ?_
    unfold frs
    rw [List.filterMap_cons, hf]
    exact List.mem_cons_of_mem _ hb
theorem lam_here {P : Fm} {LL : List Nat} {Γ : List Kd} {g : Addr → Nat} {ρ : List D} {pos : Pos} {Q : Value → Shared → Prop} (I : Inv X pins σ H s) (st : StaN X.vm T P LL Γ g ρ σ H) (hΓ : Γ.all Kd.lawK = true) (C : LawC X T c Pt) (L : LamP X params body scope fvs ps js)
    (h : ∀ (f c' : Addr) (pm ctv : Value) (H1 : Hp) (s' : Shared), Inv X ((f, PySem.W.kla_obj "<lambda>" (X.env.qual ++ "<lambda>") params body scope (cloFrom X.env.cells scope.names []) pm c' ctv) :: pins) σ H1 s' → LamX.ExtN H H1 → StaN X.vm T P LL Γ g ρ σ H1 →
      H1 c' = some (LamX.CodeO c' (X.env.qual ++ "<lambda>")) → Q (.ref f) s') : wpAny (model X.prog X.w) X.A (eval (.Lambda params body scope pos) X.env) Q X.xe s := by
  refine LamX.lam_make2 I C.tb C.code C.mem C.one st.tabs L.dfl (fun y hy e => I.ok.has _ (.inl (L.fre y hy e))) fun f c' pm ctv H1 s' I1 eN T1 hf hfn hfr hco => ?_
  refine h f c' pm ctv H1 s' (pin_more I1 hf hfn (fun z => ?_) (fs_stack I1 hfr) fun v z => nomatch z) eN ⟨sta_extN st.sta st.no hΓ eN, st.no, T1⟩ hco
  obtain ⟨m, ⟨o, es, ep, ho, hd, _⟩, _⟩ := I1.loc
  rw [z, ho] at hf
  cases hf
  cases hd
theorem lam_at {f c' : Addr} {pm ctv : Value} {vs : List V}
    (I : Inv X ((f, PySem.W.kla_obj "<lambda>" (X.env.qual ++ "<lambda>") params body scope (cloFrom X.env.cells scope.names []) pm c' ctv) :: pins) σ H s) (C : LawC X T c Pt) (L : LamP X params body scope fvs ps js)
    (hl : vs.length = js.length) (hv : ∀ (i j : Nat), js[i]? = some j → ∃ v, vs[i]? = some v ∧ σ[j]? = some (some v)) :
    LamAt (hidB s.heap H X.stack) ⟨f, c', X.env.qual ++ "<lambda>", vs⟩ params body scope (cloFrom X.env.cells scope.names []) fvs := by
  have notfr : ∀ {b : Addr}, b ≠ X.env.locals → b ∉ X.fs → b ∉ frs X.stack := fun {b} h1 h2 hb => by
    rcases List.mem_cons.mp (I.stkSub b hb) with e | e
    · exact h1 e
    · exact h2 e
  have hfree : ∀ y ∈ scope.names, y.2 = .free → ∃ c, X.env.cells.lookup y.1 = some c := fun y hy e => I.ok.has _ (.inl (L.fre y hy e))
  have cm : ∀ {y c}, (cloFrom X.env.cells scope.names []).lookup y = some c → X.env.cells.lookup y = some c := fun {y c} e => by
    rcases cloFrom_mem (PySem.mem_of_lookup e) with hm | ⟨h1, h2⟩
    · cases hm
    · obtain ⟨c1, hc⟩ := hfree _ h1 rfl
      have hc : X.env.cells.lookup y = some c1 := hc
      have e2 : c = c1 := by
        rw [h2, hc] <;> rfl
      rw [e2]
      exact hc
  have look : ∀ {y}, scope.names.lookup y = some .free → ∃ c, (cloFrom X.env.cells scope.names []).lookup y = some c := fun {y} hl => by
    have hy : (y, NameKind.free) ∈ scope.names := PySem.mem_of_lookup hl
    exact mem_lookup (cloFrom_has (cells := X.env.cells) (acc := []) hy)
  have cellB : ∀ {y c v}, X.env.cells.lookup y = some c → s.heap.IsCell c v → (hidB s.heap H X.stack).IsCell c v := fun {y c v} e ⟨o, ho, hd⟩ => by
    refine ⟨o, hidB_get ho (I.freeC y c e) (notfr (I.cne y c e) fun hb => ?_), hd⟩
    obtain ⟨_, o', ho', _⟩ := I.ok.funs.mem hb
    exact absurd (Heap.lt_size ho') (Nat.not_lt.mpr (I.ok.cab y c (C.fn y) e))
  refine ⟨?_, by show vs.length = _; rw [hl, L.len], fun i y v e1 e2 => ?_, fun y cc e => ?_, fun y z cc e1 e2 => I.ok.inj y z cc (cm e1) (cm e2), fun y hy => look hy⟩
  · obtain ⟨h1, h2, h3, h4, _⟩ := I.pin (f, _) (List.mem_append_right _ List.mem_cons_self)
    exact ⟨pm, ctv, hidB_get h1 h2 (notfr h3 h4)⟩
  · have hi : i < fvs.length := (List.getElem?_eq_some_iff.mp e1).1
    obtain ⟨j, hj⟩ : ∃ j, js[i]? = some j := ⟨_, List.getElem?_eq_getElem (by rw [L.len]; exact hi)⟩
    obtain ⟨v', g1, g2⟩ := hv i j hj
    have e2 : vs[i]? = some v := e2
    rw [g1] at e2; cases e2
    have hy : scope.names.lookup y = some .free := L.sc.fre y (List.mem_of_getElem? e1)
    have hc : X.env.scope.names.lookup y = some .cell := L.fre (y, .free) (PySem.mem_of_lookup hy) rfl
    obtain ⟨m, hn, hl⟩ := I.loc
    obtain ⟨u, r, q⟩ := hl j y _ (L.nm i j y hj e1) g2 (.inr (.inl hc))
    obtain ⟨c2, h2⟩ := look hy
    rcases q with ⟨k', _⟩ | ⟨_, c3, e', z⟩
    · have k' : X.env.scope.names.lookup y = some .local := k'
      rw [hc] at k'; cases k'
    · have c1 := cm h2
      rw [c1] at e'
      cases e'
      exact ⟨c2, u, h2, cellB c1 z, r⟩
  · obtain ⟨v, h⟩ := I.cell y cc (cm e)
    exact ⟨v, cellB (cm e) h⟩
end
end VV

/-! ## VLamD -/
namespace VV
open PySem PySem.Spec PyProof.Rows L2
/-! ### a def handed a lambda -/
theorem run_fnB {X : Cx} {pins : List (Addr × Obj)} {σ : L2.St} {H : Hp} {s : Shared} {Q : VK} {us : List Value} {vs : List V} {k : Nat} {f : Addr} {fd : FuncData} {ps : List Str} {sp : Sp} (F : FnOk X.prog X.w X.K X.mg (hidB s.heap H X.stack) CX0 k f fd ps sp) (hr : Room k X.A) (hb : Binds X.K fd ps [])
    (I : Inv X pins σ H s) (r : Vals vs us) (h : sp vs H Q (fun _ _ _ => False)) : wpAny (model X.prog X.w) X.A (call (.ref f) us) (EP X pins σ Q) X.xe s := by
  have hl : (us ++ []).length = ps.length := by rw [List.append_nil, ← r.length]; exact F.len _ _ _ _ h
  refine wpAny_call (codeAny_mono (F.run X.A X.stack s H ⟨us, []⟩ (us ++ []) vs Q (fun _ _ _ => False) hr (inv_env0B I) (hb s us I.kIn hl) (by rw [List.append_nil]; exact r) h) fun r s' hq => ?_)
  cases r with
  | error e => exact pass0 pins σ H s e s' I hq
  | ok fl =>
    cases fl with
    | ret u => exact I.after hq
    | next => exact False.elim hq
    | brk => exact False.elim hq
    | cont => exact False.elim hq
open Classical in
/-- what is told whatever the lambda's place -/
noncomputable def lamRes (F : LamId → Option Res) : Option D := if h : ∃ d, ∀ x, F x = some (.ret d) then some h.choose else none
theorem lamRes_get {F : LamId → Option Res} {d : D} (h : lamRes F = some d) (x : LamId) : F x = some (.ret d) := by
  unfold lamRes at h
  split at h
  · rename_i hh
    cases h
    exact hh.choose_spec x
  · cases h
theorem lamRes_eq {F : LamId → Option Res} {d : D} (h : ∀ x, F x = some (.ret d)) : lamRes F = some d := by
  have hh : ∃ d, ∀ x, F x = some (.ret d) := ⟨d, h⟩
  unfold lamRes
  rw [dif_pos hh]
  have e := (hh.choose_spec ⟨0, 0, Str.empty, []⟩).symm.trans (h ⟨0, 0, Str.empty, []⟩)
  have e2 : hh.choose = d := by
    injection e with e
    injection e
  exact congrArg some e2
noncomputable def eLast (semG : LamId → List D → Option Res) (s1 s2 : Ev) (js : List Nat) : Ev := fun ρ => do
  let d1 ← s1 ρ
  let d2 ← s2 ρ
  let dsc ← capD js ρ
  lamRes fun x => semG x [d1, d2, .clo x dsc]
noncomputable def eFirst (semG : LamId → List D → Option Res) (js : List Nat) (s2 s3 : Ev) : Ev := fun ρ => do
  let dsc ← capD js ρ
  let d2 ← s2 ρ
  let d3 ← s3 ρ
  lamRes fun x => semG x [.clo x dsc, d2, d3]
/-- the def's reading for any lambda of such a reading -/
def LamG (P : Program) (w : World) (K : PySem.W.Frag) (mg : Str → Option Value) (gf : Addr) (kk : Nat) (fd : FuncData) (ps : List Str) (kl : Nat) (lps : List Str) (pk : List Kd) (semL : Ev) (Rl : Rm) (semG : LamId → List D → Option Res) (R : Rm) : Prop :=
  ∀ (base' : Heap) (x : LamId) (fdl : FuncData), L2.Mod K mg base' → (∃ oc od sl, base'.get? x.f = some ⟨oc, od, .func fdl, sl⟩) → (∀ us : List Value, us.length = lps.length → bindArgs fdl ⟨us, []⟩ = pure (lps.zip us)) →
    FnOk P w K mg base' CX0 kl x.f fdl lps (spLam ⟨mg, K⟩ x pk semL lps.length Rl) → FnOk P w K mg base' CX0 kk gf fd ps (sp0 ⟨mg, K⟩ (semG x) ps.length R)
/-- the lambda's body's reading -/
def LamB (P : Program) (w : World) (K : PySem.W.Frag) (mg : Str → Option Value) (kl : Nat) (body : Expr) (scope : Scope) (fvs lps : List Str) (pk : List Kd) (semL : Ev) (Rl : Rm) : Prop :=
  ∃ m, lamMd Rl m = true ∧ ∀ (base' : Heap) (x : LamId) (cl : List (Str × Addr)) (A : Around) (outer : List Env) (s : Shared) (H : Hp) (E : XK), L2.Mod K mg base' → Room kl (A.deeper (PySem.W.envX x.q scope s.heap.objs.size x.f (.ref x.c) cl)) →
    EX (lamC P w K mg base' (fvs ++ lps) x scope cl A outer s H E) [] pk body semL m
section
variable {X : Cx} {T : List (Addr × Str)} {LL : List Nat} {Γ : List Kd} {c Pt gf : Addr} {params : Arguments} {body : Expr} {scope : Scope} {fvs lps : List Str} {js : List Nat} {kk kl : Nat} {fd : FuncData} {ps : List Str} {pk : List Kd} {semL : Ev} {Rl R : Rm}
  {semG : LamId → List D → Option Res} {x : Str} {p pos lpos : Pos}
theorem rf_plain {mg : Mg} {H H' : Hp} {fp : List Addr} {R : Rm} {d : D} {v : V} (hR : R = .flat ∨ R = .fresh) (h : RF mg H H' fp R d v) : RF mg H H' [] R d v := by
  rcases hR with rfl | rfl
  · exact h
  · exact h
theorem exl_last {e1 e2 : Expr} {s1 s2 : Ev} (C : LawC X T c Pt) (L : LamP X params body scope fvs lps js) (B : LamB X.prog X.w X.K X.mg kl body scope fvs lps pk semL Rl) (G : LamG X.prog X.w X.K X.mg gf kk fd ps (kl + 1) lps pk semL Rl semG R)
    (hr : Room kk X.A) (hg : Gl X x) (hm : X.mg x = some (.ref gf)) (hk : PySem.W.keepIn X.K (.ref gf) = true) (hb : Binds X.K fd ps []) (hΓ : Γ.all Kd.lawK = true) (hcap : (js.all fun j => ((Γ[j]?).map Kd.capt).getD false) = true) (hR : R = .flat ∨ R = .fresh)
    (h1 : EX X LL Γ e1 s1 .flat) (h2 : EX X LL Γ e2 s2 .flat) (hn : ps.length = 3 := by rfl) (hdb : (x == ("__debug__" : Str)) = false := by decide)
    (hs1 : starEach [e1, e2, .Lambda params body scope lpos] X.env = (false, eval e1 X.env) :: starEach [e2, .Lambda params body scope lpos] X.env := by rfl) (hs2 : starEach [e2, .Lambda params body scope lpos] X.env = (false, eval e2 X.env) :: starEach [.Lambda params body scope lpos] X.env := by rfl)
    (hpl : (backTo pos (starEach [e2, .Lambda params body scope lpos] X.env)).any (·.1) = false := by rfl) :
    EXL X T LL Γ (.Call (.Name x p) [e1, e2, .Lambda params body scope lpos] [] pos) (eLast semG s1 s2 js) (R.md .flat) := by
  obtain ⟨t1, p1, k1⟩ := h1
  obtain ⟨t2, p2, k2⟩ := h2
  obtain ⟨m, hlm, hbody⟩ := B
  refine ⟨fun σ H Q => ∃ P g ρ d, StaN X.vm T P LL Γ g ρ σ H ∧ eLast semG s1 s2 js ρ = some d ∧ ∀ v H1 H', LamX.ExtN H H1 → StaN X.vm T P LL Γ g ρ σ H1 → Ext H1 H' → Val X.vm P g H1 H' (R.md .flat) d v → Q v H', ⟨fun pins s σ H Q I ⟨P, g, ρ, d, st, e, q⟩ => ?_⟩, fun P g ρ σ H d Q st e q => ⟨P, g, ρ, d, st, e, q⟩⟩
  obtain ⟨d1, g1, e⟩ := bind_some e
  obtain ⟨d2, g2, e⟩ := bind_some e
  obtain ⟨dsc, g3, e⟩ := bind_some e
  refine wpAny_Call_Name_kw (ld_glob I hg hm ?_ hdb)
  refine PySem.W.callWith_K (h₀ := X.base) I.ok.mod.kin hk ?_ hs1 hpl
  rw [hs1]
  show wpAny _ _ (spliced ((false, eval e1 X.env) :: backTo pos (starEach [e2, .Lambda params body scope lpos] X.env))) _ _ s
  refine Calls.spliced_cons (thn (p1.run pins s σ H (fun v H' => Ext H H' ∧ Rep X.vm H' d1 v []) I (k1 P g ρ σ H d1 _ st.sta g1 fun v H' x w => ⟨x, w⟩)) fun u1 s1 ⟨v1, H1, I1, r1, x1, w1⟩ => ?_)
  rw [hs2]
  show wpAny _ _ (spliced ((false, eval e2 X.env) :: backTo pos (starEach [.Lambda params body scope lpos] X.env))) _ _ s1
  have st1 := st.ext x1
  refine Calls.spliced_cons (thn (p2.run pins s1 σ H1 (fun v H' => Ext H1 H' ∧ Rep X.vm H' d2 v []) I1 (k2 P g ρ σ H1 d2 _ st1.sta g2 fun v H' x w => ⟨x, w⟩)) fun u2 s2 ⟨v2, H2, I2, r2, x2, w2⟩ => ?_)
  have st2 := st1.ext x2
  show wpAny _ _ (spliced ((false, eval (.Lambda params body scope lpos) X.env) :: backTo pos (starEach [] X.env))) _ _ s2
  refine Calls.spliced_cons (lam_here I2 st2 hΓ C L fun f c' pm ctv H3 s3 I3 eN st3 hco => ?_)
  refine Calls.spliced_nil ⟨I3.kIn, ?_⟩
  obtain ⟨vs, fp, rc, hvl, hv⟩ := cap_ok st3.sta g3 hcap
  have LA := lam_at I3 C L hvl hv
  have hmod := mod_to I3.mod (inv_base I3)
  obtain ⟨fdl, hf, ⟨_, _, hfd⟩, FL⟩ := lam_fn (P := X.prog) (w := X.w) (K := X.K) (mg := X.mg) LA L.sc hlm fun A outer s H E hr => hbody _ _ _ A outer s H E hmod hr
  have F := G _ _ fdl hmod hf (fun us hl => by rw [hfd]; exact L.bind _ _ _ _ _ us hl) FL
  refine thn (run_fnB F hr hb I3 (us := [u1, u2, .ref f]) (vs := [v1, v2, .ref f]) (Q := Q) (.cons r1 (.cons r2 (.cons rfl .nil))) ?_) fun u s' ⟨v, H', I', r, q⟩ => ⟨v, H', pin_less I', r, q⟩
  refine ⟨hn.symm, [d1, d2, .clo _ dsc], c' :: fp, d, ?_, lamRes_get e _, fun v H4 x4 rf => q v H3 H4 (((extN_of (x1.trans x2))).trans eN) st3 x4 (rf_val (m := .flat) Ext.refl x4 rfl (rf_plain hR rf))⟩
  have w1' : Rep X.vm H3 d1 v1 [] := (w1.ext x2).keep (fun a ha => nomatch ha) (extN_kpT eN)
  have w2' : Rep X.vm H3 d2 v2 [] := w2.keep (fun a ha => nomatch ha) (extN_kpT eN)
  simp only [RepL]
  refine ⟨v1, [v2, .ref f], [], c' :: fp, rfl, w1', ⟨v2, [.ref f], [], c' :: fp, rfl, w2', ⟨.ref f, [], c' :: fp, [], rfl, ?_, ⟨rfl, rfl⟩, by simp⟩, rfl⟩, rfl⟩
  simp only [Rep]
  exact ⟨fp, trivial, .inl hco, rc, rfl⟩
theorem exl_first {e2 e3 : Expr} {s2 s3 : Ev} {m2 m3 : Md} (C : LawC X T c Pt) (L : LamP X params body scope fvs lps js) (B : LamB X.prog X.w X.K X.mg kl body scope fvs lps pk semL Rl) (G : LamG X.prog X.w X.K X.mg gf kk fd ps (kl + 1) lps pk semL Rl semG R)
    (hr : Room kk X.A) (hg : Gl X x) (hm : X.mg x = some (.ref gf)) (hk : PySem.W.keepIn X.K (.ref gf) = true) (hb : Binds X.K fd ps []) (hΓ : Γ.all Kd.lawK = true) (hcap : (js.all fun j => ((Γ[j]?).map Kd.capt).getD false) = true) (hR : R = .flat ∨ R = .fresh)
    (h2 : EXL X T LL Γ e2 s2 m2) (h3 : EX X LL Γ e3 s3 m3) (hn : ps.length = 3 := by rfl) (hdb : (x == ("__debug__" : Str)) = false := by decide)
    (hs1 : starEach [.Lambda params body scope lpos, e2, e3] X.env = (false, eval (.Lambda params body scope lpos) X.env) :: starEach [e2, e3] X.env := by rfl) (hs2 : starEach [e2, e3] X.env = (false, eval e2 X.env) :: starEach [e3] X.env := by rfl) (hs3 : starEach [e3] X.env = (false, eval e3 X.env) :: starEach [] X.env := by rfl)
    (hpl : (backTo pos (starEach [e2, e3] X.env)).any (·.1) = false := by rfl) :
    EXL X T LL Γ (.Call (.Name x p) [.Lambda params body scope lpos, e2, e3] [] pos) (eFirst semG js s2 s3) (R.md .flat) := by
  obtain ⟨t2, p2, k2⟩ := h2
  obtain ⟨t3, p3, k3⟩ := h3
  obtain ⟨m, hlm, hbody⟩ := B
  refine ⟨fun σ H Q => ∃ P g ρ d, StaN X.vm T P LL Γ g ρ σ H ∧ eFirst semG js s2 s3 ρ = some d ∧ ∀ v H1 H', LamX.ExtN H H1 → StaN X.vm T P LL Γ g ρ σ H1 → Ext H1 H' → Val X.vm P g H1 H' (R.md .flat) d v → Q v H', ⟨fun pins s σ H Q I ⟨P, g, ρ, d, st, e, q⟩ => ?_⟩, fun P g ρ σ H d Q st e q => ⟨P, g, ρ, d, st, e, q⟩⟩
  obtain ⟨dsc, g1, e⟩ := bind_some e
  obtain ⟨d2, g2, e⟩ := bind_some e
  obtain ⟨d3, g3, e⟩ := bind_some e
  refine wpAny_Call_Name_kw (ld_glob I hg hm ?_ hdb)
  refine PySem.W.callWith_K (h₀ := X.base) I.ok.mod.kin hk ?_ hs1 hpl
  rw [hs1]
  show wpAny _ _ (spliced ((false, eval (.Lambda params body scope lpos) X.env) :: backTo pos (starEach [e2, e3] X.env))) _ _ s
  refine Calls.spliced_cons (lam_here I st hΓ C L fun f c' pm ctv H1 s1 I1 eN1 st1 hco => ?_)
  rw [hs2]
  show wpAny _ _ (spliced ((false, eval e2 X.env) :: backTo pos (starEach [e3] X.env))) _ _ s1
  refine Calls.spliced_cons (thn (p2.run _ s1 σ H1 (fun v H' => ∃ H2, LamX.ExtN H1 H2 ∧ StaN X.vm T P LL Γ g ρ σ H2 ∧ Ext H2 H' ∧ ∃ fp, Rep X.vm H' d2 v fp) I1 (k2 P g ρ σ H1 d2 _ st1 g2 fun v H2 H' n s x w => ⟨H2, n, s, x, let ⟨fp, r, _⟩ := w.unroot; ⟨fp, r⟩⟩))
    fun u2 s2 ⟨v2, H2', I2, r2, H2, eN2, st2, x2, fp2, w2⟩ => ?_)
  rw [hs3]
  show wpAny _ _ (spliced ((false, eval e3 X.env) :: backTo pos (starEach [] X.env))) _ _ s2
  have st2' := st2.ext x2
  refine Calls.spliced_cons (thn (p3.run _ s2 σ H2' (fun v H' => Ext H2' H' ∧ ∃ fp, Rep X.vm H' d3 v fp) I2 (k3 P g ρ σ H2' d3 _ st2'.sta g3 fun v H' x w => ⟨x, let ⟨fp, r, _⟩ := w.unroot; ⟨fp, r⟩⟩)) fun u3 s3 ⟨v3, H3, I3, r3, x3, fp3, w3⟩ => ?_)
  have st3 := st2'.ext x3
  refine Calls.spliced_nil ⟨I3.kIn, ?_⟩
  have hco3 : H3 c' = some (LamX.CodeO c' (X.env.qual ++ "<lambda>")) := x3 _ _ (x2 _ _ (eN2 _ _ hco LamX.codeO_ne))
  obtain ⟨vs, fp, rc, hvl, hv⟩ := cap_ok st3.sta g1 hcap
  have LA := lam_at I3 C L hvl hv
  have hmod := mod_to I3.mod (inv_base I3)
  obtain ⟨fdl, hf, ⟨_, _, hfd⟩, FL⟩ := lam_fn (P := X.prog) (w := X.w) (K := X.K) (mg := X.mg) LA L.sc hlm fun A outer s H E hr => hbody _ _ _ A outer s H E hmod hr
  have F := G _ _ fdl hmod hf (fun us hl => by rw [hfd]; exact L.bind _ _ _ _ _ us hl) FL
  refine thn (run_fnB F hr hb I3 (us := [.ref f, u2, u3]) (vs := [.ref f, v2, v3]) (Q := Q) (.cons rfl (.cons r2 (.cons r3 .nil))) ?_) fun u s' ⟨v, H', I', r, q⟩ => ⟨v, H', pin_less I', r, q⟩
  refine ⟨hn.symm, [.clo _ dsc, d2, d3], (c' :: fp) ++ (fp2 ++ fp3), d, ?_, lamRes_get e _, fun v H4 x4 rf => q v H3 H4 ((eN1.trans eN2).trans (extN_of (x2.trans x3))) st3 x4 (rf_val (m := .flat) Ext.refl x4 rfl (rf_plain hR rf))⟩
  simp only [RepL]
  refine ⟨.ref f, [v2, v3], c' :: fp, fp2 ++ fp3, rfl, ?_, ⟨v2, [v3], fp2, fp3, rfl, w2.ext x3, ⟨v3, [], fp3, [], rfl, w3, ⟨rfl, rfl⟩, by simp⟩, rfl⟩, rfl⟩
  simp only [Rep]
  exact ⟨fp, trivial, .inl hco3, rc, rfl⟩
end
/-! ### statements of such a def -/
def SSL (X : Cx) (T : List (Addr × Str)) (LL : List Nat) (Γ : List Kd) (st : List Stmt) (sem : Sv) : Prop :=
  ∃ t, PSs X st t ∧ ∀ P g ρ σ H d De, StaN X.vm T P LL Γ g ρ σ H → sem ρ = some (.rt d) → (∀ v H', Rep X.vm H' d v [] → De.rt v H') → t De σ H
/-- ahead of the first lambda: the tables are empty -/
def SSZ (X : Cx) (T : List (Addr × Str)) (LL : List Nat) (Γ : List Kd) (st : List Stmt) (sem : Sv) : Prop :=
  ∃ t, PSs X st t ∧ ∀ P g ρ σ H d De, Sta X.vm P LL Γ g ρ σ H → (∀ a, ¬ P.out a) → (∀ p ∈ T, H p.1 = some (.tbl #[]) ∧ g p.1 = 0) → sem ρ = some (.rt d) → (∀ v H', Rep X.vm H' d v [] → De.rt v H') → t De σ H
section
variable {X : Cx} {W : L2.WX} {T : List (Addr × Str)} {LL : List Nat} {Γ Γ1 : List Kd} {pos : Pos}
theorem ssz_ssl {st : List Stmt} {sem : Sv} (h : SSL X T LL Γ st sem) : SSZ X T LL Γ st sem := by
  obtain ⟨t, p, k⟩ := h
  exact ⟨t, p, fun P g ρ σ H d De s no hT e q => k P g ρ σ H d De ⟨s, no, fun p hp => .nil (hT p hp).1⟩ e q⟩
theorem ssz_cons {sc : Sc} {st : Stmt} {rest : List Stmt} {a b : Sv} (hR : sc.R = .flat) (h : SX X W sc Γ st a Γ1) (h' : SSZ X T sc.LL Γ1 rest b) : SSZ X T sc.LL Γ (st :: rest) (sSeq a b) := by
  obtain ⟨t, p, k⟩ := h
  obtain ⟨u, p', k'⟩ := h'
  refine ⟨_, pss_cons p p', fun P g ρ σ H d De s no hT e w => ?_⟩
  unfold sSeq at e
  cases ea : a ρ with
  | none => rw [ea] at e; cases e
  | some o1 =>
    rw [ea] at e
    cases o1 with
    | nx ρ' =>
      refine k P g ρ σ H _ { De with nx := u De } s ea fun g' σ' H' s' st => k' P g' ρ' σ' H' d De st no (fun p hp => ?_) e w
      obtain ⟨h1, h2⟩ := hT p hp
      exact ⟨s'.kp _ (.inl h2) _ h1, (s'.lk _ (by rw [h1]; simp) (.inl h2)).trans h2⟩
    | ct ρ' => cases e
    | rt d' =>
      cases e
      refine k P g ρ σ H _ { De with nx := u De } s ea fun v g' H' s' l r => w v H' ?_
      rw [hR] at r
      exact r
    | ex c ρ' => cases e
theorem ssl_set {st : List Stmt} {sem : Sv} {i : Nat} {x : Str} {e : Expr} {se : Ev} {m : Md} {pos' : Pos} (n k : Nat) (hN : X.N.Nodup) (hi : X.N[i]? = some x) (hx : L2.Loc X.env.scope x) (he : EXL X T LL Γ e se m) (h' : SSL X T LL (Γ.set i (m.kind n k)) st sem)
    (hs : swapsWith e (some (.Name x pos')) pos.line X.env = pure false := by rfl) (hf : X.fn x = true ∨ X.env.scope.names.lookup x = some .local := by first | exact .inl rfl | exact .inr rfl | assumption)
    (h1 : n ≠ 0 := by decide) (h2 : k ≠ 0 := by decide) : SSL X T LL Γ (.Assign [.Name x pos'] e pos :: st) (sSeq (sSet i se) sem) := by
  obtain ⟨t, p, kk⟩ := he
  obtain ⟨u, p', k'⟩ := h'
  refine ⟨_, pss_cons (ps_set hN hi hx p hs hf) p', fun P g ρ σ H d De s e w => ?_⟩
  unfold sSeq at e
  cases ea : se ρ with
  | none =>
    have : sSet i se ρ = none := by unfold sSet; rw [ea]; rfl
    rw [this] at e; cases e
  | some d0 =>
    have : sSet i se ρ = some (.nx (ρ.set i d0)) := by unfold sSet; rw [ea]; rfl
    rw [this] at e
    refine kk P g ρ σ H d0 _ s ea fun v H1 H' eN s1 x vl => ?_
    exact k' P (relab g H1 H' v n k) (ρ.set i d0) _ H' d De ⟨⟨s1.sta.loc.relab x, Cells.set i (s1.sta.cells.relab s1.sta.loc x) (vl.cell s1.sta.loc h1 h2)⟩, s1.no, s1.tabs.ext x⟩ e w
theorem ssl_ifnot {st : List Stmt} {sem : Sv} {e : Expr} {se : Ev} {p1 p2 p3 : Pos} {j} (he : EXL X T LL Γ e se .flat) (h' : SSL X T LL Γ st sem) (hv : ∀ whole, isTrue e X.env whole = (do let v ← whole; standAt e.pos; holding [v] (truthy v)) := by intro _; rfl) :
    SSL X T LL Γ (.If (.UnaryOp .Not e p1) [.Return (some (.Constant (.bool false) j p2)) p3] [] pos :: st) (sSeq (sIf (wNot (tOf se)) (sRet (eC (.bl false))) sNil) sem) := by
  obtain ⟨t, p, kk⟩ := he
  obtain ⟨u, p', k'⟩ := h'
  refine ⟨_, pss_cons (ps_if (pt_not (pt_val p hv)) (pss_one (ps_ret pe_bl)) pss_nil) p', fun P g ρ σ H d De s e w => ?_⟩
  unfold sSeq at e
  cases ea : se ρ with
  | none =>
    have : sIf (wNot (tOf se)) (sRet (eC (.bl false))) sNil ρ = none := by simp [sIf, wNot, tOf, ea]
    rw [this] at e; cases e
  | some d0 =>
    refine kk P g ρ σ H d0 _ s ea fun v H1 H' eN s1 x vl => ?_
    have vl : Rep X.vm H' d0 v [] := vl
    cases d0 with
    | bl b =>
      simp only [Rep] at vl
      refine ⟨b, vl.1, ?_⟩
      cases b with
      | true =>
        have : sIf (wNot (tOf se)) (sRet (eC (.bl false))) sNil ρ = some (.nx ρ) := by simp [sIf, wNot, tOf, ea, sNil]
        rw [this] at e
        exact iteF (k' P g ρ _ H' d De (s1.ext x) e w)
      | false =>
        have : sIf (wNot (tOf se)) (sRet (eC (.bl false))) sNil ρ = some (.rt (.bl false)) := by simp [sIf, wNot, tOf, ea, sRet, eC]
        rw [this] at e
        cases e
        exact iteT (w _ _ rep_bl)
    | _ =>
      have : sIf (wNot (tOf se)) (sRet (eC (.bl false))) sNil ρ = none := by simp [sIf, wNot, tOf, ea]
      rw [this] at e; cases e
theorem ssl_ret {e : Expr} {se : Ev} (he : EXL X T LL Γ e se .flat) : SSL X T LL Γ [.Return (some e) pos] (sRet se) := by
  obtain ⟨t, p, kk⟩ := he
  refine ⟨_, pss_one (ps_ret p), fun P g ρ σ H d De s e w => ?_⟩
  obtain ⟨d0, ea, e⟩ := bind_some e
  cases e
  exact kk P g ρ σ H d _ s ea fun v H1 H' eN s1 x vl => w v H' vl
end
end VV

/-! ## VDeskF -/
/-! a name set to what a call tells that may change a desk; try, in a def that changes a desk -/
namespace VV
open PySem PySem.Spec PyProof.Rows L2
section
variable {X : Cx} {W : L2.WX} {Γ Γ' Γ1 Γ2 : List Kd} {pos pos' np : Pos} {L : List Str}
end
end VV

/-! ## VStrA -/
/-! str(x) of a whole number or a text -/
namespace VV
open PySem PySem.Spec PyProof.Rows L2
section
variable {X : Cx}
end
end VV

/-! ## VDeskG -/
/-! a def of the module that is handed a desk, and changes it -/
namespace VV
open PySem PySem.Spec PyProof.Rows L2
section
variable {X : Cx} {LL : List Nat} {Γ : List Kd} {pos p px : Pos} {k : Nat} {ps : List Str} {sem : List D → Option (Res × D)} {x : Str}
end
section
variable {X : Cx} {W : L2.WX} {sc : Sc} {Γ Γ' : List Kd} {pos : Pos}
end
end VV

/-! ## VShort -/
/-! rules said shorter: what is told by evaluation is found where the rule is used -/
namespace VV
open PySem PySem.Spec PyProof.Rows L2
section
variable {X : Cx} {LL : List Nat} {Γ Γ' : List Kd} {W : L2.WX} {sc : Sc} {pos : Pos} {x : Str}
theorem xs {e : Expr} {se : Ev} {m : Md} {pos' : Pos} (i n k : Nat) (hN : X.N.Nodup) (he : EX X sc.LL Γ e se m) (hi : X.N[i]? = some x := by rfl) (hx : L2.Loc X.env.scope x := by first | exact Or.inl rfl | exact Or.inr rfl)
    (hs : swapsWith e (some (.Name x pos')) pos.line X.env = pure false := by rfl) (hf : X.fn x = true ∨ X.env.scope.names.lookup x = some .local := by first | exact .inl rfl | exact .inr rfl | assumption)
    (h1 : n ≠ 0 := by decide) (h2 : k ≠ 0 := by decide) : SX X W sc Γ (.Assign [.Name x pos'] e pos) (sSet i se) (Γ.set i (m.kind n k)) := sx_set n k hN hi hx he hs hf h1 h2
end
end VV

/-! ## VPair -/
/-! a list of two things, each of its own kind: two desks, two dicts -/
namespace VV
open PySem PySem.Spec PyProof.Rows L2
/-! ### trees whose nodes are lists -/
mutual
def D.noDic : D → Bool
  | .tup l => D.noDicL l
  | .lst l => D.noDicL l
  | .dic _ _ _ => false
  | .obj _ _ _ => false
  | .dix _ _ => false
  | .clo _ _ => false
  | _ => true
def D.noDicL : List D → Bool
  | [] => true
  | d :: r => d.noDic && D.noDicL r
end
mutual
theorem Rep.lists {mg : Mg} {H : Hp} : ∀ {d : D} {v : V} {fp : List Addr}, Rep mg H d v fp → d.noDic = true → ∀ a ∈ fp, ∃ vs, H a = some (.lst vs)
  | .non, _, _, h, _ => by simp only [Rep] at h; rw [h.2]; exact fun a ha => nomatch ha
  | .bl _, _, _, h, _ => by simp only [Rep] at h; rw [h.2]; exact fun a ha => nomatch ha
  | .int _, _, _, h, _ => by simp only [Rep] at h; rw [h.2]; exact fun a ha => nomatch ha
  | .str _, _, _, h, _ => by simp only [Rep] at h; rw [h.2]; exact fun a ha => nomatch ha
  | .fn _, _, _, h, _ => by simp only [Rep] at h; rw [h.2]; exact fun a ha => nomatch ha
  | .ktx _, _, _, h, _ => by simp only [Rep] at h; rw [h.2]; exact fun a ha => nomatch ha
  | .kti _, _, _, h, _ => by simp only [Rep] at h; rw [h.2]; exact fun a ha => nomatch ha
  | .scr _, _, _, h, _ => by simp only [Rep] at h; obtain ⟨_, _, _, _, _, rfl⟩ := h; exact fun a ha => nomatch ha
  | .dix _ _, _, _, _, f => by simp [D.noDic] at f
  | .clo _ _, _, _, _, f => by simp [D.noDic] at f
  | .dic _ _ _, _, _, _, f => by simp [D.noDic] at f
  | .obj _ _ _, _, _, _, f => by simp [D.noDic] at f
  | .tup l, _, _, h, f => by
    simp only [Rep] at h
    obtain ⟨a, vs, rfl, _, h⟩ := h
    exact RepL.lists h (by simpa [D.noDic] using f)
  | .lst l, _, _, h, f => by
    simp only [Rep] at h
    obtain ⟨a, vs, f', rfl, r, h, rfl⟩ := h
    intro b hb
    rcases List.mem_cons.mp hb with rfl | hb
    · exact ⟨vs, r⟩
    · exact RepL.lists h (by simpa [D.noDic] using f) b hb
theorem RepL.lists {mg : Mg} {H : Hp} : ∀ {ds : List D} {vs : List V} {fp : List Addr}, RepL mg H ds vs fp → D.noDicL ds = true → ∀ a ∈ fp, ∃ vs, H a = some (.lst vs)
  | [], _, _, h, _ => by simp only [RepL] at h; rw [h.2]; exact fun a ha => nomatch ha
  | d :: ds, _, _, h, f => by
    simp only [RepL] at h
    obtain ⟨v, r, f1, f2, rfl, h1, h2, rfl⟩ := h
    simp only [D.noDicL, Bool.and_eq_true] at f
    intro b hb
    rcases List.mem_append.mp hb with hb | hb
    · exact Rep.lists h1 f.1 b hb
    · exact RepL.lists h2 f.2 b hb
end
/-! ### the parts of a pair -/
section
variable {mg : Mg} {P : Fm} {LL : List Nat} {Γ : List Kd} {g : Addr → Nat} {ρ : List D} {σ : L2.St} {H H' : Hp}
end
/-! ### a pair read -/
section
variable {X : Cx} {LL : List Nat} {Γ : List Kd} {pos : Pos}
end
/-! ### arguments, one of them a dict of a pair: the dict itself is not handed back -/
section
variable {X : Cx} {LL : List Nat} {Γ : List Kd} {pos p : Pos}
end
/-! ### a desk of a pair is told something -/
section
variable {mg : Mg} {P : Fm} {LL : List Nat} {Γ : List Kd} {g : Addr → Nat} {ρ : List D} {σ : L2.St} {H H2 : Hp}
/-- what a call on one of two desks needs, and what stands behind it -/
def prNums (LL : List Nat) (mm : Md) (p c n1 l1 n2 l2 : Nat) (L1 L2 : List Nat) : Prop :=
  ((l1 ≠ 0 ∧ c ≠ 0 ∧ n1 ≠ l1) ∧ (l1 ∉ LL ∧ n1 ∉ L1 ∧ l1 ∉ L1) ∧ n1 ∉ mm.labs ∧ l1 ∉ mm.labs) ∧ ((l2 ≠ 0 ∧ c ≠ 0 ∧ n2 ≠ l2) ∧ (l2 ∉ LL ∧ n2 ∉ L2 ∧ l2 ∉ L2) ∧ n2 ∉ mm.labs ∧ l2 ∉ mm.labs) ∧ (p ≠ l1 ∧ p ≠ l2) ∧ (Kd.dk false n2 l2 L2).has l1 = false ∧ (Kd.dk false n1 l1 L1).has l2 = false
instance {LL : List Nat} {mm : Md} {p c n1 l1 n2 l2 : Nat} {L1 L2 : List Nat} : Decidable (prNums LL mm p c n1 l1 n2 l2 L1 L2) := by unfold prNums; infer_instance
end
section
variable {X : Cx} {LL : List Nat} {Γ : List Kd} {pos p px ip : Pos} {k : Nat} {ps : List Str} {sem : List D → Option (Res × D)} {x : Str}
end
/-! ### one of two dicts gets a value -/
section
variable {mg : Mg} {P : Fm} {LL : List Nat} {Γ : List Kd} {g : Addr → Nat} {ρ : List D} {σ : L2.St} {H H3 : Hp}
end
section
variable {X : Cx} {W : L2.WX} {sc : Sc} {Γ : List Kd} {pos : Pos}
end
/-! ### two new desks, two new dicts -/
section
variable {X : Cx} {W : L2.WX} {sc : Sc} {Γ : List Kd} {pos : Pos}
end
end VV

/-! ## VSortS -/
/-! sorted(d) of a dict whose keys are texts; a method that raises, told by a desk: what it tells has no dict -/
namespace VV
open PySem PySem.Spec PyProof.Rows L2
section
variable {X : Cx} {LL : List Nat} {Γ : List Kd} {pos p : Pos} {a b : Expr} {sa sb : Ev} {ma mb : Md}
end
/-! ### a desk's method hands on one of its drawings -/
section
variable {X : Cx} {W : L2.WX} {LL : List Nat} {Γ : List Kd} {pos apos px : Pos} {k : Nat} {ps : List Str} {sem : List D → Option Res} {c m : Str}
end
end VV

/-! ## VOwnA -/
/-! procedures that change what they are handed: a tree of its own; their bodies, calls of them -/
namespace VV
open PySem PySem.Spec PyProof.Rows L2
/-! ### what a procedure is handed, and what stands behind it -/
structure AftO (mg : Mg) (H H' : Hp) (a : Addr) (f : List Addr) (d1 : D) (f1 : List Addr) : Prop where
  keep : ∀ x o, x ∉ a :: f → H x = some o → H' x = some o
  th : ∀ x, H x ≠ none → H' x ≠ none
  rep : Rep mg H' d1 (.ref a) (a :: f1)
  nd : (a :: f1).Nodup
  mu : ∀ x ∈ a :: f1, Mut (H' x)
  fr : ∀ x ∈ f1, x ∈ f ∨ H x = none
/-! ### what a body comes to -/
inductive OutO where
  | nx (ρ : List D) | ct (ρ : List D) | rt (ρ : List D) | rv (ρ : List D) (d : D)
structure ScO where
  LL : List Nat
  Γc : List Kd
  Γr : List Kd
def ScO.sc (s : ScO) : Sc := ⟨s.LL, .flat, s.Γc, []⟩
def WantO (X : Cx) (sc : ScO) (P : Fm) (Γ' : List Kd) (g : Addr → Nat) (H : Hp) (D : Ends) : OutO → Prop
  | .nx ρ' => ∀ g' σ' H', Step sc.LL g H g' H' → Sta X.vm P sc.LL Γ' g' ρ' σ' H' → D.nx σ' H'
  | .ct ρ' => ∀ g' σ' H', Step sc.LL g H g' H' → Sta X.vm P sc.LL sc.Γc g' ρ' σ' H' → D.ct σ' H'
  | .rt ρ' => ∀ g' σ' H', Step sc.LL g H g' H' → Sta X.vm P sc.LL sc.Γr g' ρ' σ' H' → D.rt .non H'
  | .rv ρ' d => ∀ v g' σ' H', Step sc.LL g H g' H' → Sta X.vm P sc.LL sc.Γr g' ρ' σ' H' → Rep X.vm H' d v [] → D.rt v H'
theorem WantO.from {X : Cx} {sc : ScO} {P : Fm} {Γ' : List Kd} {g g1 : Addr → Nat} {H H1 : Hp} {D : Ends} {o : OutO} (h : WantO X sc P Γ' g H D o) (s : Step sc.LL g H g1 H1) : WantO X sc P Γ' g1 H1 D o := by
  cases o with
  | nx ρ' => exact fun g' σ' H' s' st => h g' σ' H' (s.trans s') st
  | ct ρ' => exact fun g' σ' H' s' st => h g' σ' H' (s.trans s') st
  | rt ρ' => exact fun g' σ' H' s' st => h g' σ' H' (s.trans s') st
  | rv ρ' d => exact fun v g' σ' H' s' st r => h v g' σ' H' (s.trans s') st r
section
variable {X : Cx} {W : L2.WX} {sc : ScO} {Γ Γ' Γ1 Γ2 : List Kd} {pos : Pos}
end
end VV

/-! ## VOwnB -/
/-! defs of this kind; a tree of its own that a callee changes -/
namespace VV
open PySem PySem.Spec PyProof.Rows L2
section
variable {P : Program} {w : World} {K : PySem.W.Frag} {mg : Str → Option Value} {base : Heap} {x qual : Str} {params : Arguments} {body : List Stmt} {scope : Scope} {f : Addr} {fd : FuncData}
end
/-! ### the slots behind such a call -/
noncomputable def relO (g : Addr → Nat) (H H' : Hp) (a : Addr) (f f1 : List Addr) (c : Nat) : Addr → Nat := fun x =>
  open Classical in if H x = none ∧ x ∈ f1 then c else if x ∈ f ∧ x ∉ f1 then 0 else g x
section
variable {mg : Mg} {P : Fm} {LL : List Nat} {Γ : List Kd} {g : Addr → Nat} {ρ : List D} {σ : L2.St} {H H' : Hp} {a : Addr} {f f1 : List Addr} {d1 : D} {c : Nat} {Ls : List Nat}
theorem relO_old {x : Addr} (h : H x ≠ none) (hf : x ∉ f) : relO g H H' a f f1 c x = g x := by
  unfold relO
  rw [if_neg fun z => h z.1, if_neg fun z => hf z.1]
/-- what the callee may have changed bears one of these labels -/
structure In (P : Fm) (LL : List Nat) (g : Addr → Nat) (H : Hp) (a : Addr) (f : List Addr) (Ls : List Nat) : Prop where
  lab : ∀ x ∈ a :: f, g x ∈ Ls
  nl : ∀ l ∈ Ls, l ≠ 0 ∧ l ∉ LL
theorem AftO.kp (t : AftO mg H H' a f d1 f1) {x : Addr} (h : x ∉ a :: f) : Kp H H' x := by
  refine ⟨fun u _ r => ?_, fun vs r => t.keep x _ h r, fun _ _ _ r => t.keep x _ h r⟩
  rcases r with r | ⟨o, r⟩
  · exact .inl (t.keep x _ h r)
  · exact .inr ⟨o, t.keep x _ h r⟩
theorem AftO.kpT (t : AftO mg H H' a f d1 f1) (mu : ∀ x ∈ a :: f, Mut (H x)) : KpT H H' := by
  refine ⟨fun x xs e => t.keep x _ (fun z => ?_) e, fun x o vs e => t.keep x _ (fun z => ?_) e, fun x o vs e => t.keep x _ (fun z => ?_) e⟩
  · exact mut_tup (mu x z) e
  · exact mut_frz (mu x z) e
  · exact mut_frz (mu x z) e
theorem AftO.mu0 (i : In P LL g H a f Ls) (l : Loc P LL g H) : ∀ x ∈ a :: f, Mut (H x) := fun x hx => by
  have hl := i.nl _ (i.lab x hx)
  obtain ⟨o, e, m⟩ := l.at_ x hl.1
  rw [e]
  rcases m with m | m
  · exact m
  · exact ((l.fz x m).2.elim hl.1 hl.2).elim
theorem AftO.old (i : In P LL g H a f Ls) (l : Loc P LL g H) {L : List Nat} {x : Addr} (o : Old P g L x) (h : ∀ y ∈ L, y ∉ Ls) : Old P (relO g H H' a f f1 c) L x ∧ x ∉ a :: f := by
  have hx : x ∉ a :: f := fun z => h _ o.1 (i.lab x z)
  refine ⟨?_, hx⟩
  unfold Old
  rw [relO_old (o.there l) fun z => hx (List.mem_cons_of_mem _ z)]
  exact o
theorem AftO.cell (t : AftO mg H H' a f d1 f1) (i : In P LL g H a f Ls) (l : Loc P LL g H) {k : Kd} {d : D} {ov : Option V} (hc : CellOk mg P g H k d ov) : CellOk mg P (relO g H H' a f f1 c) H' (if Ls.any (fun l => k.has l) then .dead else k) d ov := by
  have mu := AftO.mu0 i l
  have kt := t.kpT mu
  split
  · trivial
  · rename_i hl0
    have hl : ∀ y ∈ Ls, k.has y = false := fun y hy => by
      cases q : k.has y with
      | false => rfl
      | true => exact absurd (List.any_eq_true.mpr ⟨y, hy, q⟩) hl0
    clear hl0
    induction k generalizing d ov with
    | dead => trivial
    | exc _ _ => exact hc
    | flat =>
      obtain ⟨v, rfl, r⟩ := hc
      exact ⟨v, rfl, r.keep (fun x hx => nomatch hx) kt⟩
    | pr p k1 k2 i1 i2 =>
      obtain ⟨b, e1, e2, v1, v2, q0, q1, r, q, c1, c2⟩ := hc
      simp only [Kd.has, Bool.or_eq_false_iff, beq_eq_false_iff_ne] at hl
      obtain ⟨o', hb⟩ := AftO.old (f1 := f1) (c := c) (H' := H') i l q fun y hy z => (hl y z).1.1 (List.mem_singleton.mp hy).symm
      exact ⟨b, e1, e2, v1, v2, q0, q1, t.keep b _ hb r, o', i1 c1 fun y hy => (hl y hy).1.2, i2 c2 fun y hy => (hl y hy).2⟩
    | ow fl n L =>
      obtain ⟨b, fb, q0, r, nd, o1, o2, o3⟩ := hc
      simp only [Kd.has, Bool.or_eq_false_iff, beq_eq_false_iff_ne] at hl
      have k1 := AftO.old (f1 := f1) (c := c) (H' := H') i l o1 fun y hy z => (hl y z).1 (List.mem_singleton.mp hy).symm
      have k2 := fun x hx => AftO.old (f1 := f1) (c := c) (H' := H') i l (o2 x hx) fun y hy z => by have := (hl y z).2; simp [hy] at this
      refine ⟨b, fb, q0, r.keep (fun x hx => ?_) kt, nd, k1.1, fun x hx => (k2 x hx).1, o3⟩
      rcases List.mem_cons.mp hx with rfl | hx
      · exact t.kp k1.2
      · exact t.kp (k2 x hx).2
    | lab rt L nd =>
      obtain ⟨v, fp, q0, r, q, z⟩ := hc
      simp only [Kd.has, Bool.or_eq_false_iff] at hl
      have key : ∀ x ∈ fp, x ∉ a :: f := fun x hx => by
        rcases q x hx with ⟨_, m, rfl, y⟩ | ⟨_, y⟩
        · exact (AftO.old (f1 := f1) (c := c) (H' := H') i l y fun u hu z => by have := (hl u z).2; rw [List.mem_singleton.mp hu] at this; simp at this).2
        · exact (AftO.old (f1 := f1) (c := c) (H' := H') i l y fun u hu z => by have := (hl u z).1; simp [hu] at this).2
      refine ⟨v, fp, q0, r.keep (fun x hx => t.kp (key x hx)) kt, fun x hx => ?_, z⟩
      rcases q x hx with ⟨e, m, rfl, y⟩ | ⟨e, y⟩
      · exact .inl ⟨e, m, rfl, (AftO.old (f1 := f1) (c := c) (H' := H') i l y fun u hu z => by have := (hl u z).2; rw [List.mem_singleton.mp hu] at this; simp at this).1⟩
      · exact .inr ⟨e, (AftO.old (f1 := f1) (c := c) (H' := H') i l y fun u hu z => by have := (hl u z).1; simp [hu] at this).1⟩
    | ob m Lo =>
      obtain ⟨x, C, dx, c', ns, vs, ds, fps, rfl, rfl, hc', hl', r, ob, rs, fs, nd⟩ := hc
      simp only [Kd.has, Bool.or_eq_false_iff, beq_eq_false_iff_ne] at hl
      have k1 := AftO.old (f1 := f1) (c := c) (H' := H') i l ob.1 fun y hy z => (hl y z).1 (List.mem_singleton.mp hy).symm
      have key : ∀ (y : Addr) (L : List Nat), L ∈ Lo → Old P g L y → Old P (relO g H H' a f f1 c) L y ∧ y ∉ a :: f := fun y L hL o => AftO.old i l o fun u hu z => by
        have := (hl u z).2
        rw [List.any_eq_false] at this
        exact this L hL (by simpa using hu)
      have fsm : ∀ {fs' : List (List Addr)} {Lo' : List (List Nat)}, (∀ L ∈ Lo', L ∈ Lo) → FpS (fun b L => Old P g L b) fs' Lo' → FpS (fun b L => Old P (relO g H H' a f f1 c) L b) fs' Lo' := by
        intro fs'
        induction fs' with
        | nil =>
          intro Lo' _ h
          cases Lo' with
          | nil => trivial
          | cons _ _ => exact h.elim
        | cons f0 r ih =>
          intro Lo' hs h
          cases Lo' with
          | nil => exact h.elim
          | cons L0 Lr => exact ⟨fun b hb => (key b L0 (hs L0 List.mem_cons_self) (h.1 b hb)).1, ih (fun L hL => hs L (List.mem_cons_of_mem _ hL)) h.2⟩
      refine ⟨x, C, dx, c', ns, vs, ds, fps, rfl, rfl, hc', hl', t.keep x _ k1.2 r, ⟨k1.1, ob.2⟩, rs.monoF fun d v f0 hf h => h.keep (fun y hy => ?_) kt, fsm (fun L h => h) fs, nd⟩
      obtain ⟨L, hL, o⟩ := fs.mem hf hy
      exact t.kp (key y L hL o).2
    | dk fl m p L =>
      obtain ⟨x, y, F, q0, r, o1, o2, o3, o4⟩ := hc
      simp only [Kd.has, Bool.or_eq_false_iff, beq_eq_false_iff_ne] at hl
      have k1 := AftO.old (f1 := f1) (c := c) (H' := H') i l o1 fun u hu z => (hl u z).1.1 (List.mem_singleton.mp hu).symm
      have k2 := AftO.old (f1 := f1) (c := c) (H' := H') i l o2 fun u hu z => (hl u z).1.2 (List.mem_singleton.mp hu).symm
      have k3 := fun x hx => AftO.old (f1 := f1) (c := c) (H' := H') i l (o3 x hx) fun u hu z => by have := (hl u z).2; simp [hu] at this
      refine ⟨x, y, F, q0, r.keep (fun z hz => ?_) kt, k1.1, k2.1, fun x hx => (k3 x hx).1, o4⟩
      rcases List.mem_cons.mp hz with rfl | hz
      · exact t.kp k1.2
      · rcases List.mem_cons.mp hz with rfl | hz
        · exact t.kp k2.2
        · exact t.kp (k3 z hz).2
end
end VV

/-! ## VOwnC -/
/-! calls of procedures: f(self.x, ..), self.m(..); a tree of its own read, made -/
namespace VV
open PySem PySem.Spec PyProof.Rows L2
section
variable {mg : Mg} {P : Fm} {LL : List Nat} {Γ : List Kd} {g : Addr → Nat} {ρ : List D} {σ : L2.St} {H H2 : Hp}
/-- numbers of labels that a call wants -/
def owNums (LL : List Nat) (c n : Nat) (L : List Nat) : Prop := (n ≠ 0 ∧ n ∉ LL ∧ n ∉ L) ∧ (∀ l ∈ L, l ≠ 0 ∧ l ∉ LL) ∧ c ≠ 0 ∧ c ∉ LL ∧ c ≠ n
instance {LL : List Nat} {c n : Nat} {L : List Nat} : Decidable (owNums LL c n L) := by unfold owNums; infer_instance
end
end VV

/-! ## VOwnD -/
/-! statements: f(self.x, ..), self.m(..), self.m(); a tree of its own read, set -/
namespace VV
open PySem PySem.Spec PyProof.Rows L2
section
variable {X : Cx} {W : L2.WX} {sc : Sc} {Γ : List Kd} {pos pos' p px apos : Pos} {k : Nat} {ps : List Str} {sem : List D → Option D}
/-! ### read, set -/
end
end VV

/-! ## VOwnE -/
/-! for row in rows: each row of a list of flat lists is changed where it stands -/
namespace VV
open PySem PySem.Spec PyProof.Rows L2
section
variable {X : Cx} {W : L2.WX} {sc : Sc} {Γ : List Kd} {pos : Pos}
end
end VV

/-! ## VOwnF -/
/-! a flat or told attribute set; rows changed: a number added at a place, two places changed about; rows of a tree of its own set, changed about -/
namespace VV
open PySem PySem.Spec PyProof.Rows L2
/-! ### an attribute that is flat, or new -/
section
variable {X : Cx} {W : L2.WX} {sc : Sc} {Γ : List Kd} {LL : List Nat} {pos : Pos}
end
/-! ### x[i], by values -/
/-! ### the two row bodies -/
section
variable {X : Cx} {W : L2.WX} {sc : Sc} {Γ : List Kd} {LL : List Nat} {pos tpos bpos fpos : Pos}
end
end VV

/-! ## VOwnG -/
/-! two places of a row changed about; rows of a tree of its own set, changed about -/
namespace VV
open PySem PySem.Spec PyProof.Rows L2
/-! ### lists whose parts stand apart -/
section
variable {X : Cx} {W : L2.WX} {sc : Sc} {Γ : List Kd} {LL : List Nat} {pos tpos bpos : Pos}
end
end VV
namespace VV
open PySem PySem.Spec PyProof.Rows L2
section
variable {X : Cx} {W : L2.WX} {sc : Sc} {Γ : List Kd} {LL : List Nat} {pos : Pos}
/-! ### rows[j] = a new list -/
/-! ### rows[p], rows[q] = rows[q], rows[p] -/
end
end VV

/-! ## VFdiv -/
/-! // and % by numbers of either sign -/
namespace VV
open PySem PySem.Spec PyProof.Rows L2
def CDivZ (_ j : Int) : Prop := j ≠ 0 ∧ j.natAbs.log2 < 9000
instance : DecidableRel CDivZ := fun _ _ => inferInstanceAs (Decidable (_ ∧ _))
def CNz (_ j : Int) : Prop := j ≠ 0
instance : DecidableRel CNz := fun _ _ => inferInstanceAs (Decidable (_ ≠ _))
section
variable {X : Cx} {LL : List Nat} {Γ : List Kd} {pos : Pos} {a b : Expr} {sa sb : Ev} {ma mb : Md}
end
end VV

/-! ## VOwnH -/
/-! calls of procedures that are handed more than flat things, and tell something; tests by such calls; a tree of its own set -/
namespace VV
open PySem PySem.Spec PyProof.Rows L2
def rOwM (i : Nat) (cl m : Str) (f : List D → Option (D × D)) (a : List D → Option (List D)) : List D → Option (Res × List D) := fun ρ => match ρ[i]? with
  | some (.obj c ns ds) => if c = cl ∧ m ∉ ns then (a ρ).bind fun xs => (f (.obj cl ns ds :: xs)).map fun z => (.ret z.2, ρ.set i z.1) else none
  | _ => none
section
variable {X : Cx} {W : L2.WX} {LL : List Nat} {Γ Γ1 : List Kd} {pos pos' p px apos : Pos} {k : Nat} {ps : List Str} {sem : List D → Option (D × D)}
/-! ### tests, statements -/
def tNotM (r : List D → Option (Res × List D)) : List D → Option (Bool × List D) := fun ρ => match r ρ with
  | some (.ret (.bl b), ρ') => some (!b, ρ')
  | _ => none
theorem etm_not {e : Expr} {r : List D → Option (Res × List D)} (h : EM0 X LL Γ e r Γ1) (he : ∀ whole, isTrue e X.env whole = (do let v ← whole; standAt e.pos; holding [v] (truthy v)) := by intro _; rfl) : ETM X LL Γ (.UnaryOp .Not e pos) (tNotM r) Γ1 := by
  obtain ⟨t, p, k⟩ := h
  refine ⟨_, pt_not (pt_val p he), fun P g ρ σ H Q b ρ' s e q => ?_⟩
  unfold tNotM at e
  split at e
  · rename_i b0 ρ2 hr
    cases e
    refine k P g ρ σ H _ _ _ s hr fun v g' H' st sta rv => ?_
    have : v = .bl b0 := rBl rv
    subst this
    exact ⟨b0, rfl, q g' H' st sta⟩
  · cases e
def tPure (s : List D → Option Bool) : List D → Option (Bool × List D) := fun ρ => (s ρ).map fun b => (b, ρ)
theorem etm_pure {e : Expr} {s : List D → Option Bool} (h : ET X LL Γ e s) : ETM X LL Γ e (tPure s) Γ := by
  obtain ⟨t, p, k⟩ := h
  refine ⟨t, p, fun P g ρ σ H Q b ρ' st e q => ?_⟩
  obtain ⟨b', e1, e2⟩ := Option.map_eq_some_iff.mp e
  cases e2
  exact k P g ρ σ H _ _ st e1 fun H' x => q g H' (.ext x) (st.ext x)
end
section
variable {X : Cx} {W : L2.WX} {sc : Sc} {Γ Γ1 Γ' : List Kd} {pos pos' bpos : Pos}
end
end VV

/-! ## VLamE -/
namespace VV
open PySem PySem.Spec PyProof.Rows L2
/-! ### a table, each row one longer, and one row more -/
def rowsD (rows : List (List Int)) : List D := rows.map fun r => .lst (r.map D.int)
/-- only the lists of S may have changed, and are lists still -/
def RR (S : List Addr) (H H' : Hp) : Prop := ∀ x o, H x = some o → H' x = some o ∨ (x ∈ S ∧ ∃ us, H' x = some (.lst us))
theorem RR.refl {S : List Addr} {H : Hp} : RR S H H := fun _ _ h => .inl h
theorem RR.trans {S : List Addr} {H H1 H2 : Hp} (a : RR S H H1) (b : RR S H1 H2) : RR S H H2 := fun x o h => by
  rcases a x o h with h | ⟨hS, us, h⟩
  · exact b x o h
  · rcases b x _ h with h | h
    · exact .inr ⟨hS, us, h⟩
    · exact .inr h
theorem RR.ext {S : List Addr} {H H1 : Hp} (e : Ext H H1) : RR S H H1 := fun x o h => .inl (e x o h)
theorem RR.upd {S : List Addr} {H : Hp} {a : Addr} {us : List V} (h : a ∈ S) : RR S H (upd H a (.lst us)) := fun x o e => by
  by_cases hx : x = a
  · subst hx; exact .inr ⟨h, us, upd_same⟩
  · rw [upd_ne hx]; exact .inl e
theorem RR.there {S : List Addr} {H H1 : Hp} (r : RR S H H1) {x : Addr} (h : H x ≠ none) : H1 x ≠ none := by
  cases q : H x with
  | none => exact absurd q h
  | some o =>
    rcases r x o q with e | ⟨_, us, e⟩ <;> rw [e] <;> simp
def spAp (mg : Mg) : Sp := fun vs H Q _ => vs.length = 1 ∧ ∃ (a b : Addr) (hi wd : Int) (rows : List (List Int)) (us : List V) (f : List Addr), vs = [.ref a] ∧ H a = some (.tup [.int hi, .int wd, .ref b]) ∧ H b = some (.lst us) ∧ RepL mg H (rowsD rows) us f ∧ (b :: f).Nodup ∧
  rows.length < 1000000 ∧ (∀ r ∈ rows, (r.length : Int) = wd ∧ r.length < 1000000) ∧ ∀ H', RR (b :: f) H H' → Q (.bl true) H'
theorem flat_ints : ∀ l : List Int, D.isFlatL (l.map D.int) = true
  | [] => rfl
  | _ :: r => by simp [D.isFlatL, D.isFlat, flat_ints r]
theorem apart_run {X : Cx} {test : Expr} {semT : List D → Option Bool} {p1 p2 p3 p4 p5 p6 p7 p8 p9 q1 q2 q3 q4 q5 q6 q7 q8 q9 q10 q11 q12 q13 q14 : Pos} {j1 j2 j3 j4 j5 j6} (hp : PassesOwn (model X.prog X.w) X.A X.env X.xe) (hc : X.calm = true) (hN : X.N.Nodup) (h0 : X.N[0]? = some ("_law_found" : Str)) (h1 : X.N[1]? = some ("_law_row_here" : Str)) (hl : X.N.length = 2)
    (v0 : Vis X.env.scope "_law_found") (l1 : L2.Loc X.env.scope "_law_row_here") (v1 : Vis X.env.scope "_law_row_here") (f1 : X.fn ("_law_row_here" : Str) = true ∨ X.env.scope.names.lookup ("_law_row_here" : Str) = some .local)
    (hT : ET X [] [.lab none [0] false, .lab none [0] false] test semT) (hS : ∀ (hi wd : Int) (rows : List D) (r : List Int), (r.length : Int) = wd → r.length < 1000000 → semT [.tup [.int hi, .int wd, .lst rows], .lst (r.map D.int)] = some false)
    (hbase : attributeBase (.Name "_law_row_here" p4) "append" X.env (eval (.Name "_law_row_here" p4) X.env) = eval (.Name "_law_row_here" p4) X.env)
    (hfew : ((backTo p6 (starEach [.Constant (.int 77) j2 p5] X.env)).all (fun x => !x.1) && (backToKw p6 (keywordEach [] X.env)).all (fun x => x.1.isSome) && decide ([Expr.Constant (.int 77) j2 p5].length + ([] : List Keyword).length + (if ([] : List Keyword).isEmpty then 0 else 1) < 30)) = true)
    (hline : (p7.endLine == p6.line) = true) (hs : starEach [.Constant (.int 77) j2 p5] X.env = (false, eval (.Constant (.int 77) j2 p5) X.env) :: starEach [] X.env) (hplain : (backTo p6 (starEach [] X.env)).any (·.1) = false)
    (hsw : swapsWith (.Call (.Attribute (.Name "_law_row_here" p4) "append" p7) [.Constant (.int 77) j2 p5] [] p6) none p8.line X.env = pure false)
    (hfs : ∀ z, foldedSetIterable (.Subscript (.Name "_law_found" p1) (.Constant (.int 2) j1 p2) p3) X.env z = pure z)
    (hbase2 : attributeBase (.Subscript (.Name "_law_found" q1) (.Constant (.int 2) j3 q2) q3) "append" X.env (eval (.Subscript (.Name "_law_found" q1) (.Constant (.int 2) j3 q2) q3) X.env) = eval (.Subscript (.Name "_law_found" q1) (.Constant (.int 2) j3 q2) q3) X.env)
    (hfew2 : ((backTo q7 (starEach [.List [.Constant (.int 5) j4 q5] q6] X.env)).all (fun x => !x.1) && (backToKw q7 (keywordEach [] X.env)).all (fun x => x.1.isSome) && decide ([Expr.List [.Constant (.int 5) j4 q5] q6].length + ([] : List Keyword).length + (if ([] : List Keyword).isEmpty then 0 else 1) < 30)) = true)
    (hline2 : (q4.endLine == q7.line) = true) (hs2 : starEach [.List [.Constant (.int 5) j4 q5] q6] X.env = (false, eval (.List [.Constant (.int 5) j4 q5] q6) X.env) :: starEach [] X.env) (hplain2 : (backTo q7 (starEach [] X.env)).any (·.1) = false)
    (hs3 : starEach [.Constant (.int 5) j4 q5] X.env = (false, eval (.Constant (.int 5) j4 q5) X.env) :: starEach [] X.env)
    (hsw2 : swapsWith (.Call (.Attribute (.Subscript (.Name "_law_found" q1) (.Constant (.int 2) j3 q2) q3) "append" q4) [.List [.Constant (.int 5) j4 q5] q6] [] q7) none q8.line X.env = pure false) :
    ∃ t, PSs X [.For (.Name "_law_row_here" p9) (.Subscript (.Name "_law_found" p1) (.Constant (.int 2) j1 p2) p3) [.If test [.Return (some (.Constant (.bool false) j5 q9)) q10] [] q11, .Expr (.Call (.Attribute (.Name "_law_row_here" p4) "append" p7) [.Constant (.int 77) j2 p5] [] p6) p8] [] q12,
        .Expr (.Call (.Attribute (.Subscript (.Name "_law_found" q1) (.Constant (.int 2) j3 q2) q3) "append" q4) [.List [.Constant (.int 5) j4 q5] q6] [] q7) q8, .Return (some (.Constant (.bool true) j6 q13)) q14] t ∧
      ∀ (σ : L2.St) (H : Hp) (De : Ends) (a b : Addr) (hi wd : Int) (rows : List (List Int)) (us : List V) (f : List Addr), σ[0]? = some (some (.ref a)) → σ.length = 2 → H a = some (.tup [.int hi, .int wd, .ref b]) → H b = some (.lst us) → RepL X.vm H (rowsD rows) us f → (b :: f).Nodup → rows.length < 1000000 →
        (∀ r ∈ rows, (r.length : Int) = wd ∧ r.length < 1000000) → (∀ H', RR (b :: f) H H' → De.rt (.bl true) H') → t De σ H := by
  obtain ⟨tt, pt, kt⟩ := hT
  refine ⟨_, pss_cons (ps_for hp hc (pi_list (pe_ix ix_seq (pe_var (i := 0) h0 v0) pe_int fun _ _ => rfl)) (pg_name (i := 1) hN h1 l1 f1) (pss_cons (ps_if pt (pss_one (ps_ret pe_bl)) pss_nil)
      (pss_one (ps_expr (pe_bm PySem.F.plainAttrs_list PySem.F.slot_list_append PySem.F.type_list_append mt_append (pe_var (i := 1) h1 v1) (pa_cons pe_int pa_nil hs) hbase hfew hline hs hplain) hsw))) hfs)
    (pss_cons (ps_expr (pe_bm PySem.F.plainAttrs_list PySem.F.slot_list_append PySem.F.type_list_append mt_append (pe_ix ix_seq (pe_var (i := 0) h0 v0) pe_int fun _ _ => rfl) (pa_cons (pe_lst (pa_cons pe_int pa_nil hs3)) pa_nil hs2) hbase2 hfew2 hline2 hs2 hplain2) hsw2)
      (pss_one (ps_ret pe_bl))), fun σ H De a b hi wd rows us f hσ hσl ha hb rl nd hlen hrows q => ?_⟩
  have hlu : us.length = rows.length := by rw [rl.length]; simp [rowsD]
  have nd' := List.nodup_cons.mp nd
  have at2 : ∀ {H' : Hp} {Q' : VK}, H' a = some (.tup [.int hi, .int wd, .ref b]) → Q' (.ref b) H' → rIx X.K (.ref a) (.int 2) H' Q' := fun {H' Q'} h q => .inr (.inl ⟨a, _, 2, .ref b, rfl, rfl, .inl (.inl h), rfl, q⟩)
  have hall : ∀ x ∈ b :: f, H x ≠ none := fun x hx => by
    rcases List.mem_cons.mp hx with rfl | hx
    · rw [hb]; simp
    · exact rl.there x hx
  have haS : a ∉ b :: f := fun hm => by
    rcases List.mem_cons.mp hm with rfl | hm
    · rw [ha] at hb; cases hb
    · exact rl.notup (.inl ha) hm
  refine ⟨.ref a, hσ, at2 ha ⟨b, rfl, ⟨us, SqL.of hb⟩, ?_⟩⟩
  refine ⟨fun t m σ' H' => m = rows.length - t ∧ t ≤ rows.length ∧ σ'[0]? = some (some (.ref a)) ∧ σ'.length = 2 ∧ RR (b :: f) H H' ∧ H' b = some (.lst us) ∧ ∃ f', f'.Sublist f ∧ RepL X.vm H' (rowsD ((rows.take t).map (· ++ [77]) ++ rows.drop t)) us f',
    ⟨rows.length, rfl, Nat.zero_le _, hσ, hσl, .refl, hb, f, List.Sublist.refl _, by simpa using rl⟩, ?_⟩
  rintro t m σ' H' ⟨rfl, htl, hσ', hσl', rr, hb', f', hf', rl'⟩
  have ha' : H' a = some (.tup [.int hi, .int wd, .ref b]) := (rr a _ ha).resolve_right fun z => haS z.1
  by_cases ht : t < rows.length
  · refine .inr ?_
    have hrt : rows[t]? = some rows[t] := List.getElem?_eq_getElem ht
    have hr := hrows rows[t] (List.getElem_mem ht)
    have hcur : (rowsD ((rows.take t).map (· ++ [77]) ++ rows.drop t))[t]? = some (.lst (rows[t].map D.int)) := by
      unfold rowsD
      rw [List.getElem?_map, List.getElem?_append_right (by simp; omega)]
      simp only [List.length_map, List.length_take]
      rw [List.getElem?_drop]
      have : t + (t - min t rows.length) = t := by omega
      rw [this, hrt]
      rfl
    obtain ⟨rb, ub, fr, e1, hrb, rrb, hbm, hbf, hh⟩ := repL_inner rl' hcur (nd'.2.sublist hf')
    refine ⟨⟨us, .ref rb, SqL.of hb', e1⟩, fun σ' H' => t + 1 ≤ rows.length ∧ σ'[0]? = some (some (.ref a)) ∧ σ'.length = 2 ∧ RR (b :: f) H H' ∧ H' b = some (.lst us) ∧ ∃ f', f'.Sublist f ∧ RepL X.vm H' (rowsD ((rows.take (t + 1)).map (· ++ [77]) ++ rows.drop (t + 1))) us f', fun σ' H' h => ⟨rows.length - (t + 1), by omega, rfl, h⟩, fun xv H3 yl => ?_⟩
    obtain ⟨rfl, yl⟩ := yl
    have := yl us (SqL.of hb')
    rw [e1] at this; cases this
    obtain rfl : fr = [] := rrb.flat (flat_ints _)
    have hσ2 : (σ'.set 1 (some (.ref rb)))[0]? = some (some (.ref a)) := by rw [List.getElem?_set_ne (by decide)]; exact hσ'
    have hσ3 : (σ'.set 1 (some (V.ref rb)))[1]? = some (some (.ref rb)) := by rw [List.getElem?_set_self (by omega)]
    have hσ4 : σ'.set 1 (some (V.ref rb)) = [some (.ref a), some (.ref rb)] := by
      match σ', hσl', hσ' with
      | [x, y], _, h => simp at h; subst h; rfl
    -- the test
    have sta : Sta X.vm ⟨fun x => x ∈ b :: f, fun _ => False⟩ [] [.lab none [0] false, .lab none [0] false] (fun _ => 0) [.tup [.int hi, .int wd, .lst (rowsD ((rows.take t).map (· ++ [77]) ++ rows.drop t))], .lst (rows[t].map D.int)] (σ'.set 1 (some (.ref rb))) H3 := by
      rw [hσ4]
      refine ⟨⟨fun a z => absurd rfl z, fun x hx => rr.there (hall x hx), fun a z => z.elim⟩, ?_, ?_, trivial⟩
      · refine ⟨.ref a, b :: f', rfl, ?_, fun x hx => .inr ⟨.inr rfl, List.mem_singleton.mpr rfl, fun _ => ?_⟩, .unk fun z => nomatch z⟩
        · simp only [Rep, RepL]
          exact ⟨a, _, rfl, ha', .int hi, _, [], b :: f', rfl, ⟨rfl, rfl⟩, ⟨.int wd, _, [], b :: f', rfl, ⟨rfl, rfl⟩, ⟨.ref b, [], b :: f', [], rfl, ⟨b, us, f', rfl, hb', rl', rfl⟩, ⟨rfl, rfl⟩, by simp⟩, rfl⟩, rfl⟩
        · rcases List.mem_cons.mp hx with rfl | hx
          · exact List.mem_cons_self
          · exact List.mem_cons_of_mem _ (hf'.subset hx)
      · refine ⟨.ref rb, [rb], rfl, ?_, fun x hx => .inr ⟨.inr rfl, List.mem_singleton.mpr rfl, fun _ => ?_⟩, .unk fun z => nomatch z⟩
        · simp only [Rep]
          exact ⟨rb, ub, [], rfl, hrb, rrb, rfl⟩
        · rw [List.mem_singleton.mp hx]
          exact List.mem_cons_of_mem _ (hf'.subset hbm)
    refine kt _ _ _ _ _ false _ sta (hS hi wd _ _ hr.1 hr.2) fun H4 x4 => ?_
    refine iteF ?_
    have hrb4 := x4 _ _ hrb
    refine ⟨.ref rb, hσ3, .inl ⟨rfl, _, .inl (.inl hrb4)⟩, ?_⟩
    refine ⟨rb, ub, .int 77, rfl, rfl, hrb4, by rw [rrb.length, sizeLine_eq]; simp; omega, ?_⟩
    obtain ⟨rb2, ub2, fr2, e2, hrb2, rrb2, hbm2, hbf2, hh2⟩ := repL_inner (rl'.ext x4) hcur (nd'.2.sublist hf')
    rw [e1] at e2; cases e2
    rw [hrb4] at hrb2; cases hrb2
    obtain ⟨f2, hf2, rl2⟩ := hh2 (ub ++ [.int 77]) (rows[t].map D.int ++ [.int 77]) [] (List.nil_sublist _) (by
      have h5 := (repL_upd (o' := .lst (ub ++ [.int 77])) (rrb.ext x4) (by simp) hrb4 trivial).append (.one (rep_int (i := 77)))
      simpa using h5)
    have enext : (rowsD ((rows.take t).map (· ++ [77]) ++ rows.drop t)).set t (.lst (rows[t].map D.int ++ [.int 77])) = rowsD ((rows.take (t + 1)).map (· ++ [77]) ++ rows.drop (t + 1)) := by
      unfold rowsD
      rw [List.map_append, List.map_append, List.set_append_right _ _ (by simp; omega)]
      simp only [List.length_map, List.length_take]
      have h0 : t - min t rows.length = 0 := by omega
      rw [h0, List.drop_eq_getElem_cons ht, List.map_cons, List.set_cons_zero, List.take_add_one, hrt]
      simp only [Option.toList, List.map_append, List.map_cons, List.map_nil, List.append_assoc, List.singleton_append, List.cons_append, List.nil_append]
    rw [enext] at rl2
    have hrbb : rb ≠ b := fun z => nd'.1 (z ▸ hf'.subset hbm)
    refine ⟨by omega, hσ2, by simpa using hσl', (rr.trans (.ext x4)).trans (.upd (List.mem_cons_of_mem _ (hf'.subset hbm))), by rw [upd_ne (Ne.symm hrbb)]; exact x4 _ _ hb', f2, hf2.trans hf', rl2⟩
  · refine .inl ⟨⟨us, SqL.of hb', by omega⟩, ?_⟩
    refine ⟨.ref a, hσ', at2 ha' ⟨.inl ⟨rfl, _, .inl (.inl hb')⟩, ?_⟩⟩
    refine ⟨by show 1 ≤ sizeLine; rw [sizeLine_eq]; decide, fun p hpn => ?_⟩
    have hbp : b ≠ p := fun z => by rw [z, hpn] at hb'; cases hb'
    refine ⟨b, us, .ref p, rfl, rfl, by rw [upd_ne hbp]; exact hb', by rw [hlu, sizeLine_eq]; omega, ?_⟩
    exact q _ ((rr.trans (.ext (Ext.put hpn))).trans (.upd List.mem_cons_self))
end VV

/-! ## VLamF -/
namespace VV
open PySem PySem.Spec PyProof.Rows L2
def CalAp (P : Program) (w : World) (K : PySem.W.Frag) (mg : Str → Option Value) (base : Heap) (x : Str) (k : Nat) : Prop :=
  ∃ f fd, FnOk P w K mg base CX0 k f fd ["_law_found"] (spAp ⟨mg, K⟩) ∧ mg x = some (.ref f) ∧ PySem.W.keepIn K (.ref f) = true ∧ Binds K fd ["_law_found"] []
open Classical in
noncomputable def rApart (i : Nat) : List D → Option (Res × List D) := fun ρ => match ρ[i]? with
  | some (.tup [.int hi, .int wd, .lst rs]) => if ∃ rows : List (List Int), rs = rowsD rows ∧ rows.length < 1000000 ∧ ∀ r ∈ rows, (r.length : Int) = wd ∧ r.length < 1000000 then some (.ret (.bl true), ρ) else none
  | _ => none
theorem noDic_ints : ∀ l : List Int, D.noDicL (l.map D.int) = true
  | [] => rfl
  | _ :: r => by simp [D.noDicL, D.noDic, noDic_ints r]
theorem noDic_rows : ∀ l : List (List Int), D.noDicL (rowsD l) = true
  | [] => rfl
  | x :: r => by
    have := noDic_rows r
    simp only [rowsD, List.map_cons, D.noDicL, D.noDic, noDic_ints, Bool.true_and] at this ⊢
    exact this
section
variable {mg : Mg} {P : Fm} {LL : List Nat} {Γ : List Kd} {g : Addr → Nat} {ρ : List D} {σ : L2.St} {H H' : Hp} {S : List Addr} {Ls : List Nat}
theorem rr_kp (r : RR S H H') {x : Addr} (h : x ∉ S) (hx : H x ≠ none) : Kp H H' x := by
  cases q : H x with
  | none => exact absurd q hx
  | some o =>
    have e : H' x = some o := (r x o q).resolve_right fun z => h z.1
    refine ⟨fun u _ rd => ?_, fun vs rd => ?_, fun C dx fs rd => ?_⟩
    · unfold Rd at rd ⊢; rw [q] at rd; rw [e]; exact rd
    · rw [q] at rd; rw [e]; exact rd
    · rw [q] at rd; rw [e]; exact rd
theorem rr_kpT (r : RR S H H') (hS : ∀ x ∈ S, ∃ us, H x = some (.lst us)) : KpT H H' := by
  have key : ∀ x o, H x = some o → (∀ us, o ≠ .lst us) → H' x = some o := fun x o e n => (r x o e).resolve_right fun z => by
    obtain ⟨us, h⟩ := hS x z.1
    rw [e] at h; cases h
    exact n _ rfl
  exact ⟨fun a xs e => key a _ e fun _ z => (nomatch z), fun a o vs e => key a _ e fun _ z => (nomatch z), fun a o vs e => key a _ e fun _ z => (nomatch z)⟩
theorem rr_cells (l : Loc P LL g H) (r : RR S H H') (hS : ∀ x ∈ S, ∃ us, H x = some (.lst us)) (hL : ∀ x ∈ S, g x ∈ Ls) : ∀ {Γ : List Kd} {ρ : List D} {σ : L2.St}, Γ.all Kd.lawK = true → Cells mg P g H Γ ρ σ → Cells mg P g H' (killL Ls Γ) ρ σ
  | [], [], [], _, _ => trivial
  | k :: Γ, d :: ρ, v :: σ, hΓ, h => by
    rw [List.all_cons, Bool.and_eq_true] at hΓ
    refine ⟨?_, rr_cells l r hS hL hΓ.2 h.2⟩
    have c := h.1
    show CellOk mg P g H' (if (Ls.any fun n => k.has n) = true then .dead else k) d v
    by_cases hk : Ls.any (fun n => k.has n) = true
    · rw [if_pos hk]; trivial
    · rw [if_neg hk]
      cases k with
      | dead => trivial
      | flat =>
        obtain ⟨v, rfl, rp⟩ := c
        exact ⟨v, rfl, rp.keep (fun a ha => nomatch ha) (rr_kpT r hS)⟩
      | lab rt L nd =>
        obtain ⟨v, fp, rfl, rp, o, z⟩ := c
        refine ⟨v, fp, rfl, rp.keep (fun a ha => rr_kp r (fun hs => hk ?_) (rp.there a ha)) (rr_kpT r hS), o, z⟩
        refine List.any_eq_true.mpr ⟨g a, hL a hs, ?_⟩
        rcases o a ha with ⟨_, n, rfl, y⟩ | ⟨_, y⟩
        · simp [Kd.has, List.mem_singleton.mp y.1]
        · simp [Kd.has, y.1]
      | _ => exact absurd hΓ.1 (by simp [Kd.lawK])
  | [], _ :: _, _, _, h => h.elim
  | [], [], _ :: _, _, h => h.elim
  | _ :: _, [], _, _, h => h.elim
  | _ :: _, _ :: _, [], _, h => h.elim
theorem rr_sta (s : Sta mg P LL Γ g ρ σ H) (r : RR S H H') (hS : ∀ x ∈ S, ∃ us, H x = some (.lst us)) (hL : ∀ x ∈ S, g x ∈ Ls) (hΓ : Γ.all Kd.lawK = true) : Sta mg P LL (killL Ls Γ) g ρ σ H' := by
  refine ⟨⟨fun a h => ?_, fun a h => r.there (s.loc.out a h), fun a h => ?_⟩, rr_cells s.loc r hS hL hΓ s.cells⟩
  · obtain ⟨o, e, m⟩ := s.loc.at_ a h
    rcases r a o e with e' | ⟨_, us, e'⟩
    · exact ⟨o, e', m⟩
    · exact ⟨_, e', .inl trivial⟩
  · obtain ⟨⟨o, u, e⟩, z⟩ := s.loc.fz a h
    refine ⟨⟨o, u, (r a _ e).resolve_right fun y => ?_⟩, z⟩
    obtain ⟨us, h'⟩ := hS a y.1
    rw [e] at h'; cases h'
theorem rr_step (r : RR S H H') (hL : ∀ x ∈ S, g x ≠ 0 ∧ g x ∉ LL) : Step LL g H g H' := by
  refine ⟨fun a h u e => (r a u e).resolve_right fun y => ?_, fun _ _ _ => rfl, fun a h => r.there h⟩
  obtain ⟨h1, h2⟩ := hL a y.1
  rcases h with h | h
  · exact h1 h
  · exact h2 h
end
section
variable {X : Cx} {LL : List Nat} {Γ : List Kd} {pos p px : Pos} {k : Nat}
theorem em_apart {i : Nat} {x y : Str} {rt : Option Nat} {L : List Nat} (c : CalAp X.prog X.w X.K X.mg X.base x k) (hr : Room k X.A) (hg : Gl X x) (hk : Γ[i]? = some (.lab rt L true)) (hN : X.N[i]? = some y) (hv : Vis X.env.scope y) (hΓ : Γ.all Kd.lawK = true)
    (hL : ∀ l ∈ rt.toList ++ L, l ≠ 0 ∧ l ∉ LL := by decide) (hdb : (x == ("__debug__" : Str)) = false := by decide) (hdy : (y == ("__debug__" : Str)) = false := by decide) (hcd : (y == ("__classdict__" : Str)) = false := by decide)
    (hst0 : starEach [.Name y px] X.env = (false, eval (.Name y px) X.env) :: starEach [] X.env := by rfl) (hpl : (backTo pos (starEach [] X.env)).any (·.1) = false := by rfl) :
    EM0 X LL Γ (.Call (.Name x p) [.Name y px] [] pos) (rApart i) (killL (rt.toList ++ L) Γ) := by
  obtain ⟨f, fd, F, hm, hkp, hbd⟩ := c
  refine ⟨_, pe_call F hr hg hm hkp hbd .nil (E := fun _ _ _ => False) pass0 (pa_cons (pe_var hN hv hdy hcd) pa_nil hst0) hdb hst0 hpl, fun P g ρ σ H Q d ρ' s hz q => ?_⟩
  obtain ⟨d0, ov, e1, e2, v, fp, rfl, r, o, z⟩ := s.cells.get hk
  unfold rApart at hz
  rw [e1] at hz
  split at hz
  case h_2 => cases hz
  rename_i hi wd rs he
  cases he
  split at hz
  case isFalse => cases hz
  rename_i hh
  cases hz
  obtain ⟨rows, rfl, hlen, hrows⟩ := hh
  simp only [Rep, RepL] at r
  obtain ⟨a, vs, rfl, ha, v1, r1, f1, g1, rfl, ⟨rfl, rfl⟩, ⟨v2, r2, f2, g2, rfl, ⟨rfl, rfl⟩, ⟨v3, r3, f3, g3, rfl, ⟨b, us, f', rfl, hb, rl, rfl⟩, ⟨rfl, rfl⟩, rfl⟩, rfl⟩, rfl⟩ := r
  simp only [List.nil_append, List.append_nil] at o z
  have lst : ∀ x ∈ b :: f', ∃ us, H x = some (.lst us) := fun x hx => by
    rcases List.mem_cons.mp hx with rfl | hx
    · exact ⟨us, hb⟩
    · exact rl.lists (noDic_rows rows) x hx
  have lab : ∀ x ∈ b :: f', g x ∈ rt.toList ++ L := fun x hx => by
    rcases o x hx with ⟨_, n, rfl, y⟩ | ⟨_, y⟩
    · rw [List.mem_singleton.mp y.1]; simp
    · exact List.mem_append_right _ y.1
  refine ⟨.ref a, e2, ⟨rfl, a, b, hi, wd, rows, us, f', rfl, ha, hb, rl, z.1 rfl, hlen, hrows, fun H' rr => ?_⟩⟩
  exact q _ g H' (rr_step rr fun x hx => hL _ (lab x hx)) (rr_sta s rr lst lab hΓ) rep_bl
end
end VV

/-! ## VLamG -/
namespace VV
open PySem PySem.Spec PyProof.Rows L2
/-! ### a law that makes lambdas -/
def spLaw (mg : Mg) (T : List (Addr × Str)) (sem : List D → Option Res) : Sp := fun vs H Q _ => vs.length = 1 ∧ ∃ ds d, RepL mg H ds vs [] ∧ (∀ p ∈ T, H p.1 = some (.tbl #[])) ∧ sem ds = some (.ret d) ∧ ∀ v H', Rep mg H' d v [] → Q v H'
def lawSem (n : Nat) (pk : List Kd) (s : Sv) : List D → Option Res := fun ds => if pkOk pk ds then
    match s (ds ++ List.replicate (n - ds.length) .non) with
    | some (.rt d) => some (.ret d)
    | _ => none
  else none
def spScr (mg : Mg) (T : List (Addr × Str)) (n : Nat) : Sp := fun vs H Q _ => vs.length = 1 ∧ ∃ (a : Addr) (ns : List Int), vs = [.ref a] ∧ ns.length ≤ n ∧ (∀ z ∈ ns, Builtin.Int.intBits z ≤ 1048576) ∧ SqL mg.K H a (ns.map V.int) ∧ (∀ p ∈ T, H p.1 = some (.tbl #[])) ∧ ∀ H', Q (.bl true) H'
section
variable {P : Program} {w : World} {K : PySem.W.Frag} {mg : Str → Option Value} {base : Heap} {x qual : Str} {params : Arguments} {body : List Stmt} {scope : Scope} {f : Addr} {fd : FuncData}
theorem fn_okT {N ps : List Str} {k : Nat} {T : List (Addr × Str)} {s : Sv} {c : Addr} (F : FunD K x qual params body scope [] [] f fd) (hc : ∀ (oc : Value) (od : Option Addr) (osl : Array (Option Value)) (fdx : FuncData), K.lookup f = some ⟨oc, od, .func fdx, osl⟩ → fdx.code = .ref c)
    (S : FnScope N ps scope) (pk : List Kd) (hp : pk.length = ps.length) (hN : ps.length ≤ N.length) (h1 : ps.length = 1)
    (hb : ∀ (A : Around) (outer : List Env) (s0 : Shared) (H : Hp) (E : XK), Room k (A.deeper (envOfC qual scope s0.heap.objs.size f (.ref c))) → SSZ (cxOf CX0 P w K mg base N qual scope f (.ref c) A outer s0 H E).nox T [] (pk ++ List.replicate (N.length - pk.length) .dead) body s) :
    FnOk P w K mg base CX0 (k + 1) f fd ps (spLaw ⟨mg, K⟩ T (lawSem N.length pk s)) := by
  obtain ⟨oc, od, dV, kV, doc, pm, an, cdv, ct, osl, rfl, lk, hcd, _, _⟩ := F.ex
  have ecd : cdv = .ref c := hc _ _ _ _ lk
  subst ecd
  refine fn_of lk hcd S (fun vs H Q E h => by rw [h1]; exact h.1) fun A outer s0 H vs Q E hr h => ?_
  obtain ⟨hl, ds, d, r, hT, e, q⟩ := h
  obtain ⟨t, p, kk⟩ := hb A outer s0 H E hr
  refine ⟨t, p.nox, ?_⟩
  unfold lawSem at e
  split at e
  · rename_i hpk
    have hlen := pkOk_len hpk
    have hvd := r.length
    have st : Sta ⟨mg, K⟩ ⟨fun a => a ∈ [], fun _ => False⟩ [] (pk ++ List.replicate (N.length - pk.length) .dead) (fun _ => 0) (ds ++ List.replicate (N.length - ds.length) .non) (L2.start N vs) H := by
      refine ⟨loc_start fun a ha => (nomatch ha), ?_⟩
      unfold L2.start
      rw [hvd, hlen]
      exact cells_start _ hpk r fun a ha => ha
    cases o : s (ds ++ List.replicate (N.length - ds.length) .non) with
    | none => rw [o] at e; cases e
    | some o' =>
      rw [o] at e
      cases o' with
      | nx ρ' => cases e
      | ct ρ' => cases e
      | rt d' =>
        cases e
        exact kk _ _ _ _ _ d _ st (fun a ha => nomatch ha) (fun p hp => ⟨hT p hp, rfl⟩) o q
      | ex c ρ' => cases e
  · cases e
/-- the script's list, locked for the law's time -/
theorem sq_lock {K : PySem.W.Frag} {H : Hp} {s : Shared} {A : Around} {outer : List Env} {a : Addr} {xs : List V} (e0 : Env0 P w K mg base A outer s H) (h : SqL K H a xs) :
    ∃ H2, Env0 P w K mg base A outer s H2 ∧ ScrAt K H2 a xs ∧ (∀ b, b ≠ a → H2 b = H b) ∧ (H2 = H ∨ ∃ ys o, H a = some (.lst ys) ∧ H2 = upd H a (.frz o (.lst ys))) := by
  rcases h with (h | h) | h
  · obtain ⟨hz, its, n, rv, ho⟩ := e0.hok a _ h
    refine ⟨upd H a (.frz { cls := .type "list", data := .seq its.toArray n } (.lst xs)), ?_, .inl ⟨_, upd_same⟩, fun b hb => upd_ne hb, .inr ⟨xs, _, h, rfl⟩⟩
    have ne : ∀ b, H b = none → b ≠ a := fun b e z => by rw [z, h] at e; cases e
    refine ⟨e0.frames, e0.mod, fun b o e => ⟨(e0.bs b o e).1, by rw [upd_ne (ne b (e0.bs b o e).2)]; exact (e0.bs b o e).2⟩, e0.bsz, e0.funs, fun b hb => by rw [upd_ne (ne b (e0.frf b hb))]; exact e0.frf b hb, fun b u e => ?_, e0.bare⟩
    by_cases hb : b = a
    · subst hb
      rw [upd_same] at e
      cases e
      exact ⟨ho, hz, its, n, rv, ho⟩
    · rw [upd_ne hb] at e
      refine (e0.hok b u e).stay (fun _ _ _ q => q) (fun d q => ?_) fun d ys q => ?_
      · rw [upd_ne fun z => by rw [z, h] at q; cases q]; exact q
      · rw [upd_ne fun z => by rw [z, h] at q; cases q]; exact q
  · exact ⟨H, e0, .inl h, fun _ _ => rfl, .inl rfl⟩
  · exact ⟨H, e0, .inr h, fun _ _ => rfl, .inl rfl⟩
theorem un_lock {fs : List Addr} {H H' : Hp} {h h' : Heap} {a : Addr} {ys : List V} {o : Obj} (ha : H a = some (.lst ys)) (u : Un fs [] (upd H a (.frz o (.lst ys))) H' h h') : Un fs [] H H' h h' := by
  have ne : ∀ {b}, H b = none → b ≠ a := fun {b} e z => by rw [z, ha] at e; cases e
  have t : ∀ {b q}, H b = some q → (∀ zs, q ≠ .lst zs) → upd H a (.frz o (.lst ys)) b = some q := fun {b q} e n => by
    rw [upd_ne fun z => by rw [z, ha] at e; cases e; exact n _ rfl]; exact e
  exact ⟨fun b ob e n => u.keep b ob e (by rw [upd_ne (ne n)]; exact n), fun b ob e n => u.slot b ob e (by rw [upd_ne (ne n)]; exact n), fun b ob e n => u.free b ob e (by rw [upd_ne (ne n)]; exact n), u.there,
    fun b xs e => u.tups b xs (t e fun _ z => nomatch z), fun b ob q e => u.frzs b ob q (t e fun _ z => nomatch z), fun b ps e => u.tbls b ps (t e fun _ z => nomatch z)⟩
theorem fn_lock {k n : Nat} {T : List (Addr × Str)} {y : Str} {sem : List D → Option Res} (F : FnOk P w K mg base CX0 k f fd [y] (spLaw ⟨mg, K⟩ T sem)) (hs : ∀ ns : List Int, ns.length ≤ n → (∀ z ∈ ns, Builtin.Int.intBits z ≤ 1048576) → sem [.scr (ns.map D.int)] = some (.ret (.bl true))) :
    FnOk P w K mg base CX0 k f fd [y] (spScr ⟨mg, K⟩ T n) := by
  refine ⟨fun vs H Q E h => h.1, fun A outer s H args us vs Q E hr e0 hb r hsp => ?_⟩
  obtain ⟨hl, a, ns, rfl, h1, h2, hq, hT, q⟩ := hsp
  obtain ⟨H2, e2, sa, off, hH⟩ := sq_lock e0 hq
  have key : ∀ ns : List Int, RepL ⟨mg, K⟩ H2 (ns.map D.int) (ns.map V.int) [] := fun ns => by
    induction ns with
    | nil => simp [RepL]
    | cons n r ih => simp only [List.map_cons, RepL]; exact ⟨_, _, [], [], rfl, rep_int, ih, rfl⟩
  have rep : RepL ⟨mg, K⟩ H2 [.scr (ns.map D.int)] [.ref a] [] := by
    simp only [RepL, Rep]
    exact ⟨.ref a, [], [], [], rfl, ⟨a, _, rfl, sa, key ns, rfl⟩, ⟨rfl, rfl⟩, rfl⟩
  have hT2 : ∀ p ∈ T, H2 p.1 = some (.tbl #[]) := fun p hp => by
    rcases hH with rfl | ⟨ys, o, ha, rfl⟩
    · exact hT p hp
    · rw [upd_ne fun z => by have := hT p hp; rw [z, ha] at this; cases this]
      exact hT p hp
  refine codeAny_mono (F.run A outer s H2 args us [.ref a] Q E hr e2 hb r ⟨rfl, _, _, rep, hT2, hs ns h1 h2, fun v H' rb => ?_⟩) fun rr s' h => ?_
  · obtain rfl := rBl rb
    exact q H'
  · cases rr with
    | error e => exact h.elim
    | ok fl =>
      cases fl with
      | ret u =>
        obtain ⟨v, H', os, bare, un, hok', r', q⟩ := h
        refine ⟨v, H', os, bare, ?_, hok', r', q⟩
        rcases hH with rfl | ⟨ys, o, ha, rfl⟩
        · exact un
        · exact un_lock ha un
      | next => exact False.elim h
      | brk => exact False.elim h
      | cont => exact False.elim h
end
/-- the end -/
theorem walk_VT {l : PySem.W.OpenLaw} {n k : Nat} {q : Program} {loose : List Str} {XP : (Str → Option Value) → Heap → Prop} {YP : World → Heap → Prop} {d : DefRec} {x : Str} {sem : List D → Option Res} {qn : Str}
    (hn : l.most = some n) (hn2 : n ≤ sizeLine) (hdf : d.params.defaults = []) (hr : Room k callerA)
    (hs : ∀ ns : List Int, ns.length ≤ n → (∀ z ∈ ns, Builtin.Int.intBits z ≤ 1048576) → sem [.scr (ns.map D.int)] = some (.ret (.bl true)))
    (F : ∀ (w : World) (mg : Str → Option Value) (fa : Addr) (h : Heap), YP w h → h.Ns mainGlobals mg → mg d.name = some (.ref fa) →
      ∃ (K : PySem.W.Frag) (fd : FuncData) (c Pt : Addr), K.In h ∧ h.get? Pt = some { cls := .none, data := .fields #[] } ∧ K.lookup Pt = none ∧ PySem.W.CodeHd h c Pt ∧ (∀ (s : Shared) (u : Value), BindsTo s fd ⟨[u], []⟩ [(x, u)]) ∧
        ∀ base : Heap, K.In base → base.Ns mainGlobals mg → LamX.TabB base mg c Pt → FnOk l.prog w K mg base CX0 k fa fd [x] (spLaw ⟨mg, K⟩ [(Pt, qn)] sem)) :
    PySem.W.WalkO q loose XP YP l.row.toRowW d [] (fun f vs => PySem.call f vs) := by
  refine LamX.walk_ofTsE (CX := fun _ => CX0) (x := x) hn hn2 hdf hr (fun w mg fa h Y G hmg => ?_) fun w H s e s' h => h
  obtain ⟨K, fd, c, Pt, KX, h1, h2, h3, hb, hF⟩ := F w mg fa h Y G hmg
  have one : ∀ {R : Addr × Addr → Prop}, R (c, Pt) → ∀ p ∈ [(c, Pt)], R p := fun {R} h p hp => by rw [List.mem_singleton.mp hp]; exact h
  refine ⟨K, KX, fd, [(c, Pt)], spScr ⟨mg, K⟩ [(Pt, qn)] n, one (R := fun p => h.get? p.2 = some { cls := .none, data := .fields #[] }) h1, one (R := fun p => K.lookup p.2 = none) h2, one (R := fun p => PySem.W.CodeHd h p.1 p.2) h3, hb, fun H a ns e1 e2 e3 e4 => ?_, fun base KB GB TB => fn_lock (hF base KB GB (TB _ (List.mem_singleton.mpr rfl))) hs⟩
  refine ⟨rfl, a, ns, rfl, e1, e2, e4, fun p hp => ?_, fun H' => rfl⟩
  rw [List.mem_singleton.mp hp]
  exact e3 (c, Pt) (List.mem_singleton.mpr rfl)
/-! ### a lambda's names, looked up at once -/
def lamPB (sc : Scope) (N : List Str) (scope : Scope) (fvs ps : List Str) (js : List Nat) : Bool :=
  decide (scope.kind = .function) && (!scope.isCoroutine && (!scope.isGenerator && ((scope.names.all fun y => !decide (y.2 = .cell)) && ((ps.all fun x => decide (scope.names.lookup x = some .local)) && ((fvs.all fun x => decide (scope.names.lookup x = some .free)) && (decide ps.Nodup &&
  ((scope.names.all fun y => !decide (y.2 = .free) || decide (sc.names.lookup y.1 = some .cell)) && (decide (js.length = fvs.length) && (js.zip fvs).all fun p => decide (N[p.1]? = some p.2)))))))))
theorem lamP_of {X : Cx} {params : Arguments} {body : Expr} {scope : Scope} {fvs ps : List Str} {js : List Nat} (h : lamPB X.env.scope X.N scope fvs ps js = true) (dfl : defaultsOf params X.env = ([], []))
    (bind : ∀ (q : Str) (cl : List (Str × Addr)) (pm cv ctv : Value) (us : List Value), us.length = ps.length → bindArgs (PySem.W.kla_fn "<lambda>" q params body scope cl pm cv ctv) ⟨us, []⟩ = pure (ps.zip us)) : LamP X params body scope fvs ps js := by
  unfold lamPB at h
  simp only [Bool.and_eq_true, Bool.or_eq_true, Bool.not_eq_true', decide_eq_true_eq, decide_eq_false_iff_not, List.all_eq_true] at h
  obtain ⟨h1, h2, h3, h4, h5, h6, h7, h8, h9, h10⟩ := h
  refine ⟨⟨h1, h2, h3, h4, h5, h6, h7⟩, dfl, fun y hy e => (h8 y hy).resolve_left fun z => z e, h9, fun i j y e1 e2 => ?_, bind⟩
  exact h10 (j, y) (List.mem_of_getElem? (i := i) (by rw [List.getElem?_zip_eq_some]; exact ⟨e1, e2⟩))
end VV

/-! ## VFdefs3 -/
/-! the program's leads and the law's own, as trees -/
namespace VP
open PySem PySem.Spec PyProof.Rows L2 VV
end VP

/-! ## VFdefs4 -/
/-! words and tables, as trees -/
namespace VP
open PySem PySem.Spec PyProof.Rows L2 VV
end VP

/-! ## VQdefs -/
namespace VQ
open PySem PySem.Spec PyProof.Rows L2 VV VP

end VQ

/-! ## VQdefs2 -/
namespace VQ
open PySem PySem.Spec PyProof.Rows L2 VV VP

end VQ

/-! ## VQdefs3 -/
/-! where words of known tuples lead, tables due, as trees -/
namespace VQ
open PySem PySem.Spec PyProof.Rows L2 VV
open VP
end VQ

/-! ## VQdefs4 -/
/-! the trees of the class Sheet (printed) -/
namespace VQ
open PySem PySem.Spec PyProof.Rows L2 VV VP
end VQ

/-! ## VQdefs5 -/
/-! the trees of is_drawing, named_anew and closing (printed) -/
namespace VQ
open PySem PySem.Spec PyProof.Rows L2 VV VP
end VQ

/-! ## VQdefs6 -/
/-! the trees of the laws own flat (printed) -/
namespace VQ
open PySem PySem.Spec PyProof.Rows L2 VV VP
end VQ

/-! ## VQdefs7 -/
/-! the tree of the laws own _law_same (printed) -/
namespace VQ
open PySem PySem.Spec PyProof.Rows L2 VV VP
end VQ

/-! ## VQdefs8 -/
/-! the trees of beside (printed) -/
namespace VQ
open PySem PySem.Spec PyProof.Rows L2 VV VP
end VQ

/-! ## VQdefs9 -/
/-! the trees of mirrored, turned_about (printed) -/
namespace VQ
open PySem PySem.Spec PyProof.Rows L2 VV VP
end VQ

/-! ## VQdefs10 -/
/-! the trees of strand_at, _law_begins, _law_slide, parts of strands_of, slid, face_at (printed by mkdefs10.py) -/
namespace VQ
open PySem PySem.Spec PyProof.Rows L2 VV VP
end VQ

/-! ## K02s -/
namespace K02
open PySem PySem.Spec PyProof.Rows L2 VV VP

def m__law_sizes_e1 : Ev := (eP dMod (aCons (eVar 3) (aCons (eC (.int 7)) aNil)))
def m__law_sizes_e2 : Ev := (eP dMod (aCons (eVar 3) (aCons (eC (.int 4)) aNil)))
def m__law_sizes_c1_1 : Sv := (sPut lPut 2 (eP dMod (aCons (eChk D.isFlat (eP dIdx (aCons (eVar 1) (aCons (eC (.int 4)) aNil)))) (aCons (eC (.int 3)) aNil))) (eP dMod (aCons (eChk D.isFlat (eP dIdx (aCons (eVar 1) (aCons (eC (.int 5)) aNil)))) (aCons (eC (.int 401)) aNil))))
def m__law_sizes_c1 : Sv := (sSeq (sSet 2 (eLc (iLst (eSl (eChk D.isLst (eVar 1)) oNone (oSome (eC (.int 3))))) (gF (gN 3)) cYes m__law_sizes_e2)) m__law_sizes_c1_1)
def m__law_sizes_2 : Sv := (sSeq (sIf (tOf (eP dEq (aCons (eP dMod (aCons (eChk D.isFlat (eP dIdx (aCons (eVar 1) (aCons (eC (.int 3)) aNil)))) (aCons (eC (.int 8)) aNil))) (aCons (eC (.int 5)) aNil)))) m__law_sizes_c1 sNil) (sRet (eVar 2)))
def m__law_sizes_1 : Sv := (sSeq (sSet 2 (eLc (iLst (eSl (eChk D.isLst (eVar 1)) oNone (oSome (eC (.int 3))))) (gF (gN 3)) cYes m__law_sizes_e1)) m__law_sizes_2)
def m__law_sizes : Sv := (sSeq (sSet 1 (eChk D.kidsFlat (eCall f__law_row (aCons (eVar 0) (aCons (eC (.int 6)) (aCons (eC (.int 4096)) aNil)))))) m__law_sizes_1)
def f__law_sizes : List D → Option Res := fnSem 4 [.flat] m__law_sizes
noncomputable def m__law_due_e2 (x : LamId) (pk : List Kd) (semL : Ev) : Ev := (eClo x pk semL 2 (aCons (eVar 3) (aCons (eVar 4) aNil)))
noncomputable def m__law_due_e1 (x : LamId) (pk : List Kd) (semL : Ev) : Ev := (eLc (iRng (aCons (eVar 1) aNil)) (gN 4) cYes (m__law_due_e2 x pk semL))
noncomputable def m__law_due (x : LamId) (pk : List Kd) (semL : Ev) : Sv := (sRet (eTup (aCons (eVar 0) (aCons (eVar 1) (aCons (eLc (iRng (aCons (eVar 0) aNil)) (gN 3) cYes (m__law_due_e1 x pk semL)) aNil)))))
noncomputable def f__law_due (x : LamId) (pk : List Kd) (semL : Ev) : List D → Option Res := fnSem 5 [.flat, .flat, .lab none [0] false] (m__law_due x pk semL)
def m__law_copy_e1 : Ev := (eChk D.kidsFlat (eP dList (aCons (eVar 1) aNil)))
def m__law_copy : Sv := (sRet (eTup (aCons (eChk D.isFlat (eP dIdx (aCons (eVar 0) (aCons (eC (.int 0)) aNil)))) (aCons (eChk D.isFlat (eP dIdx (aCons (eVar 0) (aCons (eC (.int 1)) aNil)))) (aCons (eLc (iLst (eP dIdx (aCons (eVar 0) (aCons (eC (.int 2)) aNil)))) (gN 1) cYes m__law_copy_e1) aNil)))))
def f__law_copy : List D → Option Res := fnSem 2 [.lab none [0] false] m__law_copy
def m__law_whole : Sv := (sRet (vAnd (eP (dIsi "int") (aCons (eVar 0) aNil)) (vNot (eP (dIsi "bool") (aCons (eVar 0) aNil)))))
def f__law_whole : List D → Option Res := fnSem 1 [.flat] m__law_whole
def m__law_same_e1 : Ev := (eCall f__law_whole (aCons (eVar 3) aNil))
def m__law_same_b1 : Sv := (sIf (wOr (wNot (tOf (eP (dIsi "list") (aCons (eVar 2) aNil)))) (wNot (tOf (eP dAll (aCons (eLc (iLst (eVar 2)) (gF (gN 3)) cYes m__law_same_e1) aNil))))) (sRet (eC (.bl false))) sNil)
def m__law_same_2 : Sv := (sSeq (sFor (iLst (eP dIdx (aCons (eVar 0) (aCons (eC (.int 2)) aNil)))) (gN 2) m__law_same_b1) (sRet (eC (.bl true))))
def m__law_same_1 : Sv := (sSeq (sIf (wOr (wNot (tOf (eCall f__law_whole (aCons (eChk D.isFlat (eP dIdx (aCons (eVar 0) (aCons (eC (.int 0)) aNil)))) aNil)))) (wNot (tOf (eCall f__law_whole (aCons (eChk D.isFlat (eP dIdx (aCons (eVar 0) (aCons (eC (.int 1)) aNil)))) aNil))))) (sRet (eC (.bl false))) sNil) m__law_same_2)
def m__law_same : Sv := (sSeq (sIf (wOr (wNot (tOf (eP (dIsi "tuple") (aCons (eVar 0) aNil)))) (wOr (tOf (eP dNe (aCons (eP dLen (aCons (eVar 0) aNil)) (aCons (eC (.int 3)) aNil)))) (wOr (wNot (tOf (eP (dIsi "list") (aCons (eP dIdx (aCons (eVar 0) (aCons (eC (.int 2)) aNil))) aNil)))) (tOf (eP dNe (aCons (eVar 0) (aCons (eVar 1) aNil))))))) (sRet (eC (.bl false))) sNil) m__law_same_1)
def f__law_same : List D → Option Res := fnSem 4 [.lab none [0] false, .lab none [0] false] m__law_same
noncomputable def m__law_told_e1 (x : LamId) (pk : List Kd) (semL : Ev) : Ev := (eCall f__law_copy (aCons (eVar 6) aNil))
noncomputable def m__law_told_b1_1 (x : LamId) (pk : List Kd) (semL : Ev) : Sv := (sIfM (wOrM (tPure (wNot (tOf (eCall f__law_same (aCons (eVar 5) (aCons (eVar 1) aNil)))))) (wOrM (tNotM (rApart 5)) (tPure (tOf (eP dNe (aCons (eVar 2) (aCons (eVar 3) aNil))))))) (sRet (eC (.bl false))))
noncomputable def m__law_told_b1 (x : LamId) (pk : List Kd) (semL : Ev) : Sv := (sSeq (sSet 5 (eClo x pk semL 0 aNil)) (m__law_told_b1_1 x pk semL))
noncomputable def m__law_told_1 (x : LamId) (pk : List Kd) (semL : Ev) : Sv := (sSeq (sFor (iRng (aCons (eC (.int 2)) aNil)) (gN 4) (m__law_told_b1 x pk semL)) (sRet (eC (.bl true))))
noncomputable def m__law_told (x : LamId) (pk : List Kd) (semL : Ev) : Sv := (sSeq (sSet 3 (eLc (iLst (eVar 2)) (gN 6) cYes (m__law_told_e1 x pk semL))) (m__law_told_1 x pk semL))
noncomputable def f__law_told (x : LamId) (pk : List Kd) (semL : Ev) : List D → Option Res := fnSem 7 [.lab none [0] false, .lab none [0] false, .lab none [0] false] (m__law_told x pk semL)
def m__law_times_e2 : Ev := (eP dMul (aCons (eChk D.isFlat (eP dIdx (aCons (eP dIdx (aCons (eP dIdx (aCons (eVar 0) (aCons (eC (.int 2)) aNil))) (aCons (eVar 3) aNil))) (aCons (eVar 5) aNil)))) (aCons (eChk D.isFlat (eP dIdx (aCons (eP dIdx (aCons (eP dIdx (aCons (eVar 1) (aCons (eC (.int 2)) aNil))) (aCons (eVar 5) aNil))) (aCons (eVar 4) aNil)))) aNil)))
def m__law_times_e1 : Ev := (eP dSum (aCons (eLc (iRng (aCons (eChk D.isFlat (eP dIdx (aCons (eVar 0) (aCons (eC (.int 1)) aNil)))) aNil)) (gN 5) cYes m__law_times_e2) aNil))
def m__law_times_b1 : Sv := (sMut dPush 2 (eLc (iRng (aCons (eChk D.isFlat (eP dIdx (aCons (eVar 1) (aCons (eC (.int 1)) aNil)))) aNil)) (gN 4) cYes m__law_times_e1))
def m__law_times_2 : Sv := (sRet (eTup (aCons (eChk D.isFlat (eP dIdx (aCons (eVar 0) (aCons (eC (.int 0)) aNil)))) (aCons (eChk D.isFlat (eP dIdx (aCons (eVar 1) (aCons (eC (.int 1)) aNil)))) (aCons (eVar 2) aNil)))))
def m__law_times_1 : Sv := (sSeq (sFor (iRng (aCons (eChk D.isFlat (eP dIdx (aCons (eVar 0) (aCons (eC (.int 0)) aNil)))) aNil)) (gN 3) m__law_times_b1) m__law_times_2)
def m__law_times : Sv := (sSeq (sSet 2 (eLst aNil)) m__law_times_1)
def f__law_times : List D → Option Res := fnSem 6 [.lab none [0] false, .lab none [0] false] m__law_times
def l_1 : Ev := (eP dAdd (aCons (eChk D.isFlat (eP dIdx (aCons (eP dIdx (aCons (eP dIdx (aCons (eVar 0) (aCons (eC (.int 2)) aNil))) (aCons (eVar 2) aNil))) (aCons (eVar 3) aNil)))) (aCons (eChk D.isFlat (eP dIdx (aCons (eP dIdx (aCons (eP dIdx (aCons (eVar 1) (aCons (eC (.int 2)) aNil))) (aCons (eVar 2) aNil))) (aCons (eVar 3) aNil)))) aNil)))
def lp_1 : List Kd := [.lab none [0] false, .lab none [0] false, .flat, .flat]
noncomputable def g_1 : LamId → List D → Option Res := fun x => f__law_due x lp_1 l_1
def l_2 : Ev := (eCall f_plus (aCons (eVar 0) (aCons (eVar 1) aNil)))
def lp_2 : List Kd := [.lab none [0] false, .lab none [0] false]
noncomputable def g_2 : LamId → List D → Option Res := fun x => f__law_told x lp_2 l_2
def l_3 : Ev := (eP dMul (aCons (eVar 0) (aCons (eChk D.isFlat (eP dIdx (aCons (eP dIdx (aCons (eP dIdx (aCons (eVar 1) (aCons (eC (.int 2)) aNil))) (aCons (eVar 2) aNil))) (aCons (eVar 3) aNil)))) aNil)))
def lp_3 : List Kd := [.flat, .lab none [0] false, .flat, .flat]
noncomputable def g_3 : LamId → List D → Option Res := fun x => f__law_due x lp_3 l_3
def l_4 : Ev := (eCall f_many_times (aCons (eVar 0) (aCons (eVar 1) aNil)))
def lp_4 : List Kd := [.flat, .lab none [0] false]
noncomputable def g_4 : LamId → List D → Option Res := fun x => f__law_told x lp_4 l_4
def l_5 : Ev := (eChk D.isFlat (eP dIdx (aCons (eP dIdx (aCons (eP dIdx (aCons (eVar 0) (aCons (eC (.int 2)) aNil))) (aCons (eVar 2) aNil))) (aCons (eVar 1) aNil))))
def lp_5 : List Kd := [.lab none [0] false, .flat, .flat]
noncomputable def g_5 : LamId → List D → Option Res := fun x => f__law_due x lp_5 l_5
def l_6 : Ev := (eCall f_turned (aCons (eVar 0) aNil))
def lp_6 : List Kd := [.lab none [0] false]
noncomputable def g_6 : LamId → List D → Option Res := fun x => f__law_told x lp_6 l_6
def l_7 : Ev := (eP dMul (aCons (eC (.int 2)) (aCons (eChk D.isFlat (eP dIdx (aCons (eP dIdx (aCons (eP dIdx (aCons (eVar 0) (aCons (eC (.int 2)) aNil))) (aCons (eVar 1) aNil))) (aCons (eVar 2) aNil)))) aNil)))
def lp_7 : List Kd := [.lab none [0] false, .flat, .flat]
noncomputable def g_7 : LamId → List D → Option Res := fun x => f__law_due x lp_7 l_7
def l_8 : Ev := (eCall f_plus (aCons (eVar 0) (aCons (eVar 0) aNil)))
def lp_8 : List Kd := [.lab none [0] false]
noncomputable def g_8 : LamId → List D → Option Res := fun x => f__law_told x lp_8 l_8
def l_9 : Ev := (eCall f_product (aCons (eVar 0) (aCons (eVar 1) aNil)))
def lp_9 : List Kd := [.lab none [0] false, .lab none [0] false]
noncomputable def g_9 : LamId → List D → Option Res := fun x => f__law_told x lp_9 l_9
def l_10 : Ev := (eCall f_nought (aCons (eVar 0) (aCons (eVar 1) aNil)))
def lp_10 : List Kd := [.flat, .flat]
noncomputable def g_10 : LamId → List D → Option Res := fun x => f__law_told x lp_10 l_10
def l_11 : Ev := (eC (.int 0))
def lp_11 : List Kd := [.flat, .flat]
noncomputable def g_11 : LamId → List D → Option Res := fun x => f__law_due x lp_11 l_11
def l_12 : Ev := (eCall f_unit (aCons (eVar 0) aNil))
def lp_12 : List Kd := [.flat]
noncomputable def g_12 : LamId → List D → Option Res := fun x => f__law_told x lp_12 l_12
def l_13 : Ev := (eP dIntC (aCons (eP dEq (aCons (eVar 0) (aCons (eVar 1) aNil))) aNil))
def lp_13 : List Kd := [.flat, .flat]
noncomputable def g_13 : LamId → List D → Option Res := fun x => f__law_due x lp_13 l_13
noncomputable def m_law_c1 : Sv := (sSet 5 (eP dSub (aCons (eP dMod (aCons (eCall f__law_cell_at (aCons (eVar 0) (aCons (eC (.int 4)) aNil))) (aCons (eC (.int 9)) aNil))) (aCons (eC (.int 4)) aNil))))
noncomputable def m_law_17 : Sv := (sRet (eFirst g_12 [3] (eLast g_13 (eVar 3) (eVar 3) []) (eLst aNil)))
noncomputable def m_law_16 : Sv := (sSeq (sSet 3 (eP dMod (aCons (eVar 1) (aCons (eC (.int 41)) aNil)))) m_law_17)
noncomputable def m_law_15 : Sv := (sSeq (sIf (wNot (tOf (eFirst g_10 [4, 9] (eLast g_11 (eVar 4) (eVar 9) []) (eLst aNil)))) (sRet (eC (.bl false))) sNil) m_law_16)
noncomputable def m_law_14 : Sv := (sSeq (sIf (wNot (tOf (eFirst g_9 [6, 8] (eCall f__law_times (aCons (eVar 6) (aCons (eVar 8) aNil))) (eLst (aCons (eVar 6) (aCons (eVar 8) aNil)))))) (sRet (eC (.bl false))) sNil) m_law_15)
noncomputable def m_law_13 : Sv := (sSeq (sIf (wNot (tOf (eFirst g_8 [6] (eVar 2) (eLst (aCons (eVar 6) aNil))))) (sRet (eC (.bl false))) sNil) m_law_14)
noncomputable def m_law_12 : Sv := (sSeq (sSet 2 (eLast g_7 (eVar 4) (eVar 9) [6])) m_law_13)
noncomputable def m_law_11 : Sv := (sSeq (sIf (wNot (tOf (eFirst g_6 [6] (eVar 2) (eLst (aCons (eVar 6) aNil))))) (sRet (eC (.bl false))) sNil) m_law_12)
noncomputable def m_law_10 : Sv := (sSeq (sSet 2 (eLast g_5 (eVar 9) (eVar 4) [6])) m_law_11)
noncomputable def m_law_9 : Sv := (sSeq (sIf (wNot (tOf (eFirst g_4 [5, 6] (eVar 2) (eLst (aCons (eVar 6) aNil))))) (sRet (eC (.bl false))) sNil) m_law_10)
noncomputable def m_law_8 : Sv := (sSeq (sSet 2 (eLast g_3 (eVar 4) (eVar 9) [5, 6])) m_law_9)
noncomputable def m_law_7 : Sv := (sSeq (sIf (wNot (tOf (eFirst g_2 [6, 7] (eVar 2) (eLst (aCons (eVar 6) (aCons (eVar 7) aNil)))))) (sRet (eC (.bl false))) sNil) m_law_8)
noncomputable def m_law_6 : Sv := (sSeq (sSet 2 (eLast g_1 (eVar 4) (eVar 9) [6, 7])) m_law_7)
noncomputable def m_law_5 : Sv := (sSeq (sIf (tOf (eP dGt (aCons (eP dMod (aCons (eCall f__law_cell_at (aCons (eVar 0) (aCons (eC (.int 5)) aNil))) (aCons (eC (.int 4)) aNil))) (aCons (eC (.int 0)) aNil)))) m_law_c1 sNil) m_law_6)
noncomputable def m_law_4 : Sv := (sSeq (sSet 5 (eP dSub (aCons (eP dMod (aCons (eCall f__law_cell_at (aCons (eVar 0) (aCons (eC (.int 4)) aNil))) (aCons (eC (.int 1000000000000000000000000000000000000000000000000000000000000)) aNil))) (aCons (eC (.int 500000000000000000000000000000000000000000000000000000000000)) aNil)))) m_law_5)
noncomputable def m_law_3 : Sv := (sSeq (sSet 8 (eCall f__law_table (aCons (eCall f__law_cell_at (aCons (eVar 0) (aCons (eC (.int 3)) aNil))) (aCons (eVar 9) (aCons (eVar 1) aNil))))) m_law_4)
noncomputable def m_law_2 : Sv := (sSeq (sSet 7 (eCall f__law_table (aCons (eCall f__law_cell_at (aCons (eVar 0) (aCons (eC (.int 2)) aNil))) (aCons (eVar 4) (aCons (eVar 9) aNil))))) m_law_3)
noncomputable def m_law_1 : Sv := (sSeq (sSet 6 (eCall f__law_table (aCons (eCall f__law_cell_at (aCons (eVar 0) (aCons (eC (.int 1)) aNil))) (aCons (eVar 4) (aCons (eVar 9) aNil))))) m_law_2)
noncomputable def m_law : Sv := (sSeq (sAsg (gL (gsCons (gF (gN 4)) (gsCons (gF (gN 9)) (gsCons (gF (gN 1)) gsNil)))) (eChk D.kidsFlat (eCall f__law_sizes (aCons (eCall f__law_cell_at (aCons (eVar 0) (aCons (eC (.int 0)) aNil))) aNil)))) m_law_1)
noncomputable def f_law : List D → Option Res := lawSem 10 [.flat] m_law
end K02

/-! ## K02w -/
namespace K02
open PySem PySem.Spec PyProof.Rows L2 VV VP

def top (i : Nat) : Stmt := PySem.Challenge.pw_loopcube_k02_sums_and_products.main.body.getD i (.Pass ⟨0, 0, 0, 0⟩)
abbrev FnP (K : PySem.W.Frag) (x : Str) (st : Stmt) (f : Addr) (fd : FuncData) : Prop := FunD K x x (defArgs st) (defBody st) (defScope st) [] [] f fd
abbrev s__law_row : Stmt := top 12
abbrev N__law_row : List Str := ["_law_cell", "_law_many", "_law_base", "_law_rest", "_law_found", "_law_high", "_law_k", "_law_one", "_law_other"]
abbrev s__law_sizes : Stmt := top 19
abbrev N__law_sizes : List Str := ["_law_cell", "_law_row_here", "_law_sizes_here", "_law_number"]
abbrev s__law_entry : Stmt := top 13
abbrev N__law_entry : List Str := ["_law_digit"]
abbrev s__law_table : Stmt := top 14
abbrev N__law_table : List Str := ["_law_cell", "_law_high", "_law_wide", "_law_row_here", "_law_i", "_law_j"]
abbrev s__law_copy : Stmt := top 15
abbrev N__law_copy : List Str := ["_law_one", "_law_row_here"]
abbrev s__law_whole : Stmt := top 16
abbrev N__law_whole : List Str := ["_law_thing"]
abbrev s__law_same : Stmt := top 17
abbrev N__law_same : List Str := ["_law_found", "_law_due_here", "_law_row_here", "_law_number"]
abbrev s__law_cell_at : Stmt := top 11
abbrev N__law_cell_at : List Str := ["_law_script", "_law_k"]
abbrev s__law_times : Stmt := top 18
abbrev N__law_times : List Str := ["_law_one", "_law_other", "_law_rows", "_law_i", "_law_j", "_law_k"]
abbrev s_unit : Stmt := top 5
abbrev N_unit : List Str := ["many", "row", "place"]
abbrev s_plus : Stmt := top 7
abbrev N_plus : List Str := ["one", "other", "left", "right", "a", "b"]
abbrev s_many_times : Stmt := top 8
abbrev N_many_times : List Str := ["number", "one", "row", "entry"]
abbrev s_turned : Stmt := top 6
abbrev N_turned : List Str := ["one", "high", "wide", "rows", "place", "row"]
abbrev s_product : Stmt := top 9
abbrev N_product : List Str := ["one", "other", "rows", "row", "found", "number", "line", "a", "b"]
abbrev s_nought : Stmt := top 4
abbrev N_nought : List Str := ["high", "wide", "row"]
abbrev s__law_due : Stmt := top 20
abbrev N__law_due : List Str := ["_law_high", "_law_wide", "_law_entry_here", "_law_i", "_law_j"]
abbrev s__law_told : Stmt := top 22
abbrev N__law_told : List Str := ["_law_make", "_law_due_here", "_law_handed", "_law_kept", "_law_k", "_law_found", "_law_one"]
abbrev s__law_apart : Stmt := top 21
abbrev N__law_apart : List Str := ["_law_found", "_law_row_here"]
abbrev s_law : Stmt := top 23
abbrev N_law : List Str := ["_law_script", "_law_deep", "_law_due_here", "_law_few", "_law_high", "_law_number", "_law_one", "_law_other", "_law_third", "_law_wide"]
section
variable {P : Program} {w : World} {K : PySem.W.Frag} {mg : Str → Option Value} {base : Heap}
theorem sc__law_row : FnScope N__law_row ["_law_cell", "_law_many", "_law_base"] (defScope s__law_row) := ⟨rfl, rfl, rfl, by decide +kernel, rfl, by decide +kernel, by decide +kernel⟩
theorem ok__law_row {f : Addr} {fd : FuncData} (F : FnP K "_law_row" s__law_row f fd) (b_range : mg "range" = none) : FnOk P w K mg base CX0 1 f fd ["_law_cell", "_law_many", "_law_base"] (sp0 ⟨mg, K⟩ f__law_row 3 .fresh) := by
  have sc := sc__law_row
  let N : List Str := N__law_row
  let st : Stmt := s__law_row
  refine fn_ok0 (Γ' := []) (sc := ⟨[], .fresh, [], []⟩) (k := 0) F sc [.flat, .flat, .flat] rfl (by decide) rfl fun cdv A outer s0 H E hr => ?_
  exact (ss_cons (sx_set (i := 3) 2 3 sc.nd rfl (by first | exact Or.inl rfl | exact Or.inr rfl) (ex_div (ex_var (k := .flat) 0 rfl (by decide) rfl (by first | exact Or.inl rfl | exact Or.inr (Or.inl rfl) | exact Or.inr (Or.inr rfl))) (ex_int)))
        (ss_cons (sx_set (i := 4) 4 5 sc.nd rfl (by first | exact Or.inl rfl | exact Or.inr rfl) (ex_lst (ea_nil)))
        (ss_cons (sx_set (i := 5) 6 7 sc.nd rfl (by first | exact Or.inl rfl | exact Or.inr rfl) (ex_var (k := .flat) 3 rfl (by decide) rfl (by first | exact Or.inl rfl | exact Or.inr (Or.inl rfl) | exact Or.inr (Or.inr rfl))))
        (ss_cons (sx_for 8 rfl PassesOwn.never (ei_range1 rfl b_range (ea_cons (ex_var (k := .flat) 1 rfl (by decide) rfl (by first | exact Or.inl rfl | exact Or.inr (Or.inl rfl) | exact Or.inr (Or.inr rfl))) (ea_nil))) (eg_name sc.nd (i := 6) rfl (by first | exact Or.inl rfl | exact Or.inr rfl))
        (ss_conv (Γ' := [.flat, .flat, .flat, .flat, .lab (some 4) [] true, .flat, .dead, .dead, .dead]) [] (ss_one (sx_set (i := 5) 9 10 sc.nd rfl (by first | exact Or.inl rfl | exact Or.inr rfl) (ex_div (ex_var (k := .flat) 5 rfl (by decide) rfl (by first | exact Or.inl rfl | exact Or.inr (Or.inl rfl) | exact Or.inr (Or.inr rfl))) (ex_var (k := .flat) 2 rfl (by decide) rfl (by first | exact Or.inl rfl | exact Or.inr (Or.inl rfl) | exact Or.inr (Or.inr rfl)))))) (by decide) (by decide)))
        (ss_cons (sx_for 11 rfl PassesOwn.never (ei_range1 rfl b_range (ea_cons (ex_var (k := .flat) 1 rfl (by decide) rfl (by first | exact Or.inl rfl | exact Or.inr (Or.inl rfl) | exact Or.inr (Or.inr rfl))) (ea_nil))) (eg_name sc.nd (i := 6) rfl (by first | exact Or.inl rfl | exact Or.inr rfl))
        (ss_conv (Γ' := [.flat, .flat, .flat, .flat, .lab (some 4) [] true, .flat, .dead, .dead, .dead]) [] (ss_one (sx_if (et_gt (ex_var (k := .flat) 5 rfl (by decide) rfl (by first | exact Or.inl rfl | exact Or.inr (Or.inl rfl) | exact Or.inr (Or.inr rfl))) (ex_int))
        (ss_cons (sx_append (i := 4) (n := 4) (L := []) (nd := true) 12 rfl rfl (by first | exact Or.inl rfl | exact Or.inr (Or.inl rfl) | exact Or.inr (Or.inr rfl)) (ex_mod (ex_var (k := .flat) 3 rfl (by decide) rfl (by first | exact Or.inl rfl | exact Or.inr (Or.inl rfl) | exact Or.inr (Or.inr rfl))) (ex_var (k := .flat) 2 rfl (by decide) rfl (by first | exact Or.inl rfl | exact Or.inr (Or.inl rfl) | exact Or.inr (Or.inr rfl)))))
        (ss_one (sx_set (i := 3) 13 14 sc.nd rfl (by first | exact Or.inl rfl | exact Or.inr rfl) (ex_div (ex_var (k := .flat) 3 rfl (by decide) rfl (by first | exact Or.inl rfl | exact Or.inr (Or.inl rfl) | exact Or.inr (Or.inr rfl))) (ex_var (k := .flat) 2 rfl (by decide) rfl (by first | exact Or.inl rfl | exact Or.inr (Or.inl rfl) | exact Or.inr (Or.inr rfl)))))))
        (ss_conv (Γ' := [.flat, .flat, .flat, .flat, .lab (some 4) [] true, .flat, .flat, .dead, .dead]) [] (ss_cons (sx_set (i := 7) 15 16 sc.nd rfl (by first | exact Or.inl rfl | exact Or.inr rfl) (ex_mod (ex_mul (ex_add (ex_add (ex_add (ex_mod (ex_var (k := .flat) 3 rfl (by decide) rfl (by first | exact Or.inl rfl | exact Or.inr (Or.inl rfl) | exact Or.inr (Or.inr rfl))) (ex_int)) (ex_mul (ex_int) (ex_var (k := .flat) 6 rfl (by decide) rfl (by first | exact Or.inl rfl | exact Or.inr (Or.inl rfl) | exact Or.inr (Or.inr rfl))))) (ex_mul (ex_var (k := .flat) 6 rfl (by decide) rfl (by first | exact Or.inl rfl | exact Or.inr (Or.inl rfl) | exact Or.inr (Or.inr rfl))) (ex_var (k := .flat) 6 rfl (by decide) rfl (by first | exact Or.inl rfl | exact Or.inr (Or.inl rfl) | exact Or.inr (Or.inr rfl))))) (ex_int)) (ex_int)) (ex_int)))
        (ss_cons (sx_set (i := 8) 17 18 sc.nd rfl (by first | exact Or.inl rfl | exact Or.inr rfl) (ex_mod (ex_mul (ex_add (ex_var (k := .flat) 7 rfl (by decide) rfl (by first | exact Or.inl rfl | exact Or.inr (Or.inl rfl) | exact Or.inr (Or.inr rfl))) (ex_mul (ex_int) (ex_var (k := .flat) 6 rfl (by decide) rfl (by first | exact Or.inl rfl | exact Or.inr (Or.inl rfl) | exact Or.inr (Or.inr rfl))))) (ex_int)) (ex_int)))
        (ss_one (sx_append (i := 4) (n := 4) (L := []) (nd := true) 19 rfl rfl (by first | exact Or.inl rfl | exact Or.inr (Or.inl rfl) | exact Or.inr (Or.inr rfl)) (ex_mod (ex_add (ex_mul (ex_var (k := .flat) 7 rfl (by decide) rfl (by first | exact Or.inl rfl | exact Or.inr (Or.inl rfl) | exact Or.inr (Or.inr rfl))) (ex_var (k := .flat) 8 rfl (by decide) rfl (by first | exact Or.inl rfl | exact Or.inr (Or.inl rfl) | exact Or.inr (Or.inr rfl)))) (ex_div (ex_var (k := .flat) 7 rfl (by decide) rfl (by first | exact Or.inl rfl | exact Or.inr (Or.inl rfl) | exact Or.inr (Or.inr rfl))) (ex_int))) (ex_var (k := .flat) 2 rfl (by decide) rfl (by first | exact Or.inl rfl | exact Or.inr (Or.inl rfl) | exact Or.inr (Or.inr rfl)))))))) (by decide) (by decide)))) (by decide) (by decide)))
        (ss_one (sx_ret (ex_var (k := .lab (some 4) [] true) 4 rfl (by decide) rfl (by first | exact Or.inl rfl | exact Or.inr (Or.inl rfl) | exact Or.inr (Or.inr rfl))))))))))
theorem cal__law_row {f : Addr} {fd : FuncData} (F : FnP K "_law_row" s__law_row f fd) (h : mg "_law_row" = some (.ref f)) (b_range : mg "range" = none) : Cal P w K mg base "_law_row" 1 ["_law_cell", "_law_many", "_law_base"] f__law_row .fresh :=
  ⟨f, fd, ok__law_row F b_range, h, F.kp, FunD.bindsN F fun _ _ _ _ _ _ us hl => match us, hl with | [_, _, _], _ => rfl⟩
theorem sc__law_sizes : FnScope N__law_sizes ["_law_cell"] (defScope s__law_sizes) := ⟨rfl, rfl, rfl, by decide +kernel, rfl, by decide +kernel, by decide +kernel⟩
theorem ok__law_sizes {f : Addr} {fd : FuncData} (F : FnP K "_law_sizes" s__law_sizes f fd) (c__law_row : Cal P w K mg base "_law_row" 1 ["_law_cell", "_law_many", "_law_base"] f__law_row .fresh) : FnOk P w K mg base CX0 2 f fd ["_law_cell"] (sp0 ⟨mg, K⟩ f__law_sizes 1 .fresh) := by
  have sc := sc__law_sizes
  let N : List Str := N__law_sizes
  let st : Stmt := s__law_sizes
  refine fn_ok0 (Γ' := []) (sc := ⟨[], .fresh, [], []⟩) (k := 1) F sc [.flat] rfl (by decide) rfl fun cdv A outer s0 H E hr => ?_
  exact (ss_cons (sx_set (i := 1) 2 3 sc.nd rfl (by first | exact Or.inl rfl | exact Or.inr rfl) (ex_kids (ex_calls_fresh c__law_row (hr.mono (by decide)) rfl (ea_cons (ex_var (k := .flat) 0 rfl (by decide) rfl (by first | exact Or.inl rfl | exact Or.inr (Or.inl rfl) | exact Or.inr (Or.inr rfl))) (ea_cons (ex_int) (ea_cons (ex_int) (ea_nil)))))))
        (ss_cons (sx_setLc (i := 2) (own := [("_law_number", 3)]) 8 6 7 rfl sc.nd rfl rfl (sw_true rfl rfl rfl (by decide +kernel)) (ei_list (ex_slL (ex_var (k := .lab (some 2) [] true) 1 rfl (by decide) rfl (by first | exact Or.inl rfl | exact Or.inr (Or.inl rfl) | exact Or.inr (Or.inr rfl))) (eo_none) (eo_some (ex_int)))) (blkOk_by (by kernel_rfl)) (fun _ _ _ _ _ => eg_flat (eg_name sc.nd (i := 3) rfl (by first | exact Or.inl rfl | exact Or.inr rfl))) (fun _ _ _ _ _ => ets_nil) (fun _ _ _ _ _ => ex_mod (ex_var (k := .flat) 3 rfl (by decide) rfl (by first | exact Or.inl rfl | exact Or.inr (Or.inl rfl) | exact Or.inr (Or.inr rfl))) (ex_int)))
        (ss_cons (sx_if (et_eq hr.units (ex_mod (ex_flat (ex_idx (ex_var (k := .lab (some 2) [] true) 1 rfl (by decide) rfl (by first | exact Or.inl rfl | exact Or.inr (Or.inl rfl) | exact Or.inr (Or.inr rfl))) (ex_int))) (ex_int)) (ex_int))
        (ss_conv (Γ' := [.flat, .lab (some 2) [] true, .lab none [11, 6] true, .dead]) [] (ss_cons (sx_setLc (i := 2) (own := [("_law_number", 3)]) 13 11 12 rfl sc.nd rfl rfl (sw_true rfl rfl rfl (by decide +kernel)) (ei_list (ex_slL (ex_var (k := .lab (some 2) [] true) 1 rfl (by decide) rfl (by first | exact Or.inl rfl | exact Or.inr (Or.inl rfl) | exact Or.inr (Or.inr rfl))) (eo_none) (eo_some (ex_int)))) (blkOk_by (by kernel_rfl)) (fun _ _ _ _ _ => eg_flat (eg_name sc.nd (i := 3) rfl (by first | exact Or.inl rfl | exact Or.inr rfl))) (fun _ _ _ _ _ => ets_nil) (fun _ _ _ _ _ => ex_mod (ex_var (k := .flat) 3 rfl (by decide) rfl (by first | exact Or.inl rfl | exact Or.inr (Or.inl rfl) | exact Or.inr (Or.inr rfl))) (ex_int)))
        (ss_one (sx_lput (i := 2) (n := 11) (L := []) (nd := true) 14 rfl rfl (by first | exact Or.inl rfl | exact Or.inr (Or.inl rfl) | exact Or.inr (Or.inr rfl)) (ex_mod (ex_flat (ex_idx (ex_var (k := .lab (some 2) [] true) 1 rfl (by decide) rfl (by first | exact Or.inl rfl | exact Or.inr (Or.inl rfl) | exact Or.inr (Or.inr rfl))) (ex_int))) (ex_int)) (ex_mod (ex_flat (ex_idx (ex_var (k := .lab (some 2) [] true) 1 rfl (by decide) rfl (by first | exact Or.inl rfl | exact Or.inr (Or.inl rfl) | exact Or.inr (Or.inr rfl))) (ex_int))) (ex_int))))) (by decide) (by decide))
        (ss_conv (Γ' := [.flat, .lab (some 2) [] true, .lab none [11, 6] true, .dead]) [] (ss_nil) (by decide) (by decide)))
        (ss_one (sx_ret (ex_var (k := .lab none [11, 6] true) 2 rfl (by decide) rfl (by first | exact Or.inl rfl | exact Or.inr (Or.inl rfl) | exact Or.inr (Or.inr rfl))))))))
theorem cal__law_sizes {f : Addr} {fd : FuncData} (F : FnP K "_law_sizes" s__law_sizes f fd) (h : mg "_law_sizes" = some (.ref f)) (c__law_row : Cal P w K mg base "_law_row" 1 ["_law_cell", "_law_many", "_law_base"] f__law_row .fresh) : Cal P w K mg base "_law_sizes" 2 ["_law_cell"] f__law_sizes .fresh :=
  ⟨f, fd, ok__law_sizes F c__law_row, h, F.kp, FunD.bindsN F fun _ _ _ _ _ _ us hl => match us, hl with | [_], _ => rfl⟩
theorem sc__law_entry : FnScope N__law_entry ["_law_digit"] (defScope s__law_entry) := ⟨rfl, rfl, rfl, by decide +kernel, rfl, by decide +kernel, by decide +kernel⟩
theorem ok__law_entry {f : Addr} {fd : FuncData} (F : FnP K "_law_entry" s__law_entry f fd) : FnOk P w K mg base CX0 1 f fd ["_law_digit"] (sp0 ⟨mg, K⟩ f__law_entry 1 .flat) := by
  have sc := sc__law_entry
  let N : List Str := N__law_entry
  let st : Stmt := s__law_entry
  refine fn_ok0 (Γ' := []) (sc := ⟨[], .flat, [], []⟩) (k := 0) F sc [.flat] rfl (by decide) rfl fun cdv A outer s0 H E hr => ?_
  exact (ss_cons (sx_if (et_lt (ex_mod (ex_var (k := .flat) 0 rfl (by decide) rfl (by first | exact Or.inl rfl | exact Or.inr (Or.inl rfl) | exact Or.inr (Or.inr rfl))) (ex_int)) (ex_int))
        (ss_one (sx_ret (ex_int)))
        (ss_nil))
        (ss_cons (sx_if (et_lt (ex_mod (ex_var (k := .flat) 0 rfl (by decide) rfl (by first | exact Or.inl rfl | exact Or.inr (Or.inl rfl) | exact Or.inr (Or.inr rfl))) (ex_int)) (ex_int))
        (ss_one (sx_ret (ex_sub (ex_mod (ex_div (ex_var (k := .flat) 0 rfl (by decide) rfl (by first | exact Or.inl rfl | exact Or.inr (Or.inl rfl) | exact Or.inr (Or.inr rfl))) (ex_int)) (ex_int)) (ex_int))))
        (ss_nil))
        (ss_one (sx_ret (ex_add (ex_mul (ex_sub (ex_div (ex_var (k := .flat) 0 rfl (by decide) rfl (by first | exact Or.inl rfl | exact Or.inr (Or.inl rfl) | exact Or.inr (Or.inr rfl))) (ex_int)) (ex_int)) (ex_powc (c := 1000000000) (ex_pow (ex_int) (ex_int)) (by unfold CPow; decide) (by decide))) (ex_div (ex_var (k := .flat) 0 rfl (by decide) rfl (by first | exact Or.inl rfl | exact Or.inr (Or.inl rfl) | exact Or.inr (Or.inr rfl))) (ex_int)))))))
theorem cal__law_entry {f : Addr} {fd : FuncData} (F : FnP K "_law_entry" s__law_entry f fd) (h : mg "_law_entry" = some (.ref f)) : Cal P w K mg base "_law_entry" 1 ["_law_digit"] f__law_entry .flat :=
  ⟨f, fd, ok__law_entry F, h, F.kp, FunD.bindsN F fun _ _ _ _ _ _ us hl => match us, hl with | [_], _ => rfl⟩
theorem sc__law_table : FnScope N__law_table ["_law_cell", "_law_high", "_law_wide"] (defScope s__law_table) := ⟨rfl, rfl, rfl, by decide +kernel, rfl, by decide +kernel, by decide +kernel⟩
theorem ok__law_table {f : Addr} {fd : FuncData} (F : FnP K "_law_table" s__law_table f fd) (b_range : mg "range" = none) (c__law_row : Cal P w K mg base "_law_row" 1 ["_law_cell", "_law_many", "_law_base"] f__law_row .fresh) (c__law_entry : Cal P w K mg base "_law_entry" 1 ["_law_digit"] f__law_entry .flat) : FnOk P w K mg base CX0 2 f fd ["_law_cell", "_law_high", "_law_wide"] (sp0 ⟨mg, K⟩ f__law_table 3 .fresh) := by
  have sc := sc__law_table
  let N : List Str := N__law_table
  let st : Stmt := s__law_table
  refine fn_ok0 (Γ' := []) (sc := ⟨[], .fresh, [], []⟩) (k := 1) F sc [.flat, .flat, .flat] rfl (by decide) rfl fun cdv A outer s0 H E hr => ?_
  exact (ss_cons (sx_set (i := 3) 2 3 sc.nd rfl (by first | exact Or.inl rfl | exact Or.inr rfl) (ex_kids (ex_calls_fresh c__law_row (hr.mono (by decide)) rfl (ea_cons (ex_var (k := .flat) 0 rfl (by decide) rfl (by first | exact Or.inl rfl | exact Or.inr (Or.inl rfl) | exact Or.inr (Or.inr rfl))) (ea_cons (ex_mul (ex_var (k := .flat) 1 rfl (by decide) rfl (by first | exact Or.inl rfl | exact Or.inr (Or.inl rfl) | exact Or.inr (Or.inr rfl))) (ex_var (k := .flat) 2 rfl (by decide) rfl (by first | exact Or.inl rfl | exact Or.inr (Or.inl rfl) | exact Or.inr (Or.inr rfl)))) (ea_cons (ex_int) (ea_nil)))))))
        (ss_one (sx_ret (ex_tup (ea_cons (ex_var (k := .flat) 1 rfl (by decide) rfl (by first | exact Or.inl rfl | exact Or.inr (Or.inl rfl) | exact Or.inr (Or.inr rfl))) (ea_cons (ex_var (k := .flat) 2 rfl (by decide) rfl (by first | exact Or.inl rfl | exact Or.inr (Or.inl rfl) | exact Or.inr (Or.inr rfl))) (ea_cons (ex_lc (own := [("_law_i", 4)]) 4 rfl sc.nd (ei_range1 rfl b_range (ea_cons (ex_var (k := .flat) 1 rfl (by decide) rfl (by first | exact Or.inl rfl | exact Or.inr (Or.inl rfl) | exact Or.inr (Or.inr rfl))) (ea_nil))) (blkOk_by (by kernel_rfl)) (fun _ _ _ _ _ => eg_name sc.nd (i := 4) rfl (by first | exact Or.inl rfl | exact Or.inr rfl)) (fun _ _ _ _ _ => ets_nil) (fun _ _ _ _ _ => ex_lc (own := [("_law_j", 5)]) 5 rfl sc.nd (ei_range1 rfl b_range (ea_cons (ex_var (k := .flat) 2 rfl (by decide) rfl (by first | exact Or.inl rfl | exact Or.inr (Or.inl rfl) | exact Or.inr (Or.inr rfl))) (ea_nil))) (blkOk_by (by kernel_rfl)) (fun _ _ _ _ _ => eg_name sc.nd (i := 5) rfl (by first | exact Or.inl rfl | exact Or.inr rfl)) (fun _ _ _ _ _ => ets_nil) (fun _ _ _ _ _ => ex_calls_flat c__law_entry (hr.mono (by decide)) rfl (ea_cons (ex_flat (ex_idx (ex_var (k := .lab (some 2) [] true) 3 rfl (by decide) rfl (by first | exact Or.inl rfl | exact Or.inr (Or.inl rfl) | exact Or.inr (Or.inr rfl))) (ex_add (ex_mul (ex_var (k := .flat) 4 rfl (by decide) rfl (by first | exact Or.inl rfl | exact Or.inr (Or.inl rfl) | exact Or.inr (Or.inr rfl))) (ex_var (k := .flat) 2 rfl (by decide) rfl (by first | exact Or.inl rfl | exact Or.inr (Or.inl rfl) | exact Or.inr (Or.inr rfl)))) (ex_var (k := .flat) 5 rfl (by decide) rfl (by first | exact Or.inl rfl | exact Or.inr (Or.inl rfl) | exact Or.inr (Or.inr rfl)))))) (ea_nil))))) (ea_nil))))))))
theorem cal__law_table {f : Addr} {fd : FuncData} (F : FnP K "_law_table" s__law_table f fd) (h : mg "_law_table" = some (.ref f)) (b_range : mg "range" = none) (c__law_row : Cal P w K mg base "_law_row" 1 ["_law_cell", "_law_many", "_law_base"] f__law_row .fresh) (c__law_entry : Cal P w K mg base "_law_entry" 1 ["_law_digit"] f__law_entry .flat) : Cal P w K mg base "_law_table" 2 ["_law_cell", "_law_high", "_law_wide"] f__law_table .fresh :=
  ⟨f, fd, ok__law_table F b_range c__law_row c__law_entry, h, F.kp, FunD.bindsN F fun _ _ _ _ _ _ us hl => match us, hl with | [_, _, _], _ => rfl⟩
theorem sc__law_copy : FnScope N__law_copy ["_law_one"] (defScope s__law_copy) := ⟨rfl, rfl, rfl, by decide +kernel, rfl, by decide +kernel, by decide +kernel⟩
theorem ok__law_copy {f : Addr} {fd : FuncData} (F : FnP K "_law_copy" s__law_copy f fd) (b_list : mg "list" = none) : FnOk P w K mg base CX0 1 f fd ["_law_one"] (sp0 ⟨mg, K⟩ f__law_copy 1 .fresh) := by
  have sc := sc__law_copy
  let N : List Str := N__law_copy
  let st : Stmt := s__law_copy
  refine fn_ok0 (Γ' := []) (sc := ⟨[], .fresh, [], []⟩) (k := 0) F sc [.lab none [0] false] rfl (by decide) rfl fun cdv A outer s0 H E hr => ?_
  exact (ss_one (sx_ret (ex_tup (ea_cons (ex_flat (ex_idx (ex_var (k := .lab none [0] false) 0 rfl (by decide) rfl (by first | exact Or.inl rfl | exact Or.inr (Or.inl rfl) | exact Or.inr (Or.inr rfl))) (ex_int))) (ea_cons (ex_flat (ex_idx (ex_var (k := .lab none [0] false) 0 rfl (by decide) rfl (by first | exact Or.inl rfl | exact Or.inr (Or.inl rfl) | exact Or.inr (Or.inr rfl))) (ex_int))) (ea_cons (ex_lc (own := [("_law_row_here", 1)]) 2 rfl sc.nd (ei_list (ex_idx (ex_var (k := .lab none [0] false) 0 rfl (by decide) rfl (by first | exact Or.inl rfl | exact Or.inr (Or.inl rfl) | exact Or.inr (Or.inr rfl))) (ex_int))) (blkOk_by (by kernel_rfl)) (fun _ _ _ _ _ => eg_name sc.nd (i := 1) rfl (by first | exact Or.inl rfl | exact Or.inr rfl)) (fun _ _ _ _ _ => ets_nil) (fun _ _ _ _ _ => ex_kids (ex_list rfl b_list (by decide +kernel) (ex_var (k := .lab none [0] false) 1 rfl (by decide) rfl (by first | exact Or.inl rfl | exact Or.inr (Or.inl rfl) | exact Or.inr (Or.inr rfl)))))) (ea_nil)))))))
theorem cal__law_copy {f : Addr} {fd : FuncData} (F : FnP K "_law_copy" s__law_copy f fd) (h : mg "_law_copy" = some (.ref f)) (b_list : mg "list" = none) : Cal P w K mg base "_law_copy" 1 ["_law_one"] f__law_copy .fresh :=
  ⟨f, fd, ok__law_copy F b_list, h, F.kp, FunD.bindsN F fun _ _ _ _ _ _ us hl => match us, hl with | [_], _ => rfl⟩
theorem sc__law_whole : FnScope N__law_whole ["_law_thing"] (defScope s__law_whole) := ⟨rfl, rfl, rfl, by decide +kernel, rfl, by decide +kernel, by decide +kernel⟩
theorem ok__law_whole {f : Addr} {fd : FuncData} (F : FnP K "_law_whole" s__law_whole f fd) (b_bool : mg "bool" = none) (b_int : mg "int" = none) (b_isinstance : mg "isinstance" = none) : FnOk P w K mg base CX0 1 f fd ["_law_thing"] (sp0 ⟨mg, K⟩ f__law_whole 1 .flat) := by
  have sc := sc__law_whole
  let N : List Str := N__law_whole
  let st : Stmt := s__law_whole
  refine fn_ok0 (Γ' := []) (sc := ⟨[], .flat, [], []⟩) (k := 0) F sc [.flat] rfl (by decide) rfl fun cdv A outer s0 H E hr => ?_
  exact (ss_one (sx_ret (ex_and (ex_isi (Ts := "int") rfl b_isinstance (by decide +kernel) rfl b_int (by decide +kernel) (ex_var (k := .flat) 0 rfl (by decide) rfl (by first | exact Or.inl rfl | exact Or.inr (Or.inl rfl) | exact Or.inr (Or.inr rfl)))) (ex_one (ex_not (ex_isi (Ts := "bool") rfl b_isinstance (by decide +kernel) rfl b_bool (by decide +kernel) (ex_var (k := .flat) 0 rfl (by decide) rfl (by first | exact Or.inl rfl | exact Or.inr (Or.inl rfl) | exact Or.inr (Or.inr rfl)))))))))
theorem cal__law_whole {f : Addr} {fd : FuncData} (F : FnP K "_law_whole" s__law_whole f fd) (h : mg "_law_whole" = some (.ref f)) (b_bool : mg "bool" = none) (b_int : mg "int" = none) (b_isinstance : mg "isinstance" = none) : Cal P w K mg base "_law_whole" 1 ["_law_thing"] f__law_whole .flat :=
  ⟨f, fd, ok__law_whole F b_bool b_int b_isinstance, h, F.kp, FunD.bindsN F fun _ _ _ _ _ _ us hl => match us, hl with | [_], _ => rfl⟩
theorem sc__law_same : FnScope N__law_same ["_law_found", "_law_due_here"] (defScope s__law_same) := ⟨rfl, rfl, rfl, by decide +kernel, rfl, by decide +kernel, by decide +kernel⟩
theorem ok__law_same {f : Addr} {fd : FuncData} (F : FnP K "_law_same" s__law_same f fd) (b_all : mg "all" = none) (b_isinstance : mg "isinstance" = none) (b_len : mg "len" = none) (b_list : mg "list" = none) (b_tuple : mg "tuple" = none) (c__law_whole : Cal P w K mg base "_law_whole" 1 ["_law_thing"] f__law_whole .flat) : FnOk P w K mg base CX0 2 f fd ["_law_found", "_law_due_here"] (sp0 ⟨mg, K⟩ f__law_same 2 .flat) := by
  have sc := sc__law_same
  let N : List Str := N__law_same
  let st : Stmt := s__law_same
  refine fn_ok0 (Γ' := []) (sc := ⟨[], .flat, [], []⟩) (k := 1) F sc [.lab none [0] false, .lab none [0] false] rfl (by decide) rfl fun cdv A outer s0 H E hr => ?_
  exact (ss_cons (sx_if (et_w (ew_or (et_not (et_val (ex_isi (Ts := "tuple") rfl b_isinstance (by decide +kernel) rfl b_tuple (by decide +kernel) (ex_var (k := .lab none [0] false) 0 rfl (by decide) rfl (by first | exact Or.inl rfl | exact Or.inr (Or.inl rfl) | exact Or.inr (Or.inr rfl)))))) (ew_or (et_ne hr.units (ex_callB call_len cp_len rfl b_len boot_len (ea_cons (ex_var (k := .lab none [0] false) 0 rfl (by decide) rfl (by first | exact Or.inl rfl | exact Or.inr (Or.inl rfl) | exact Or.inr (Or.inr rfl))) (ea_nil))) (ex_int)) (ew_or (et_not (et_val (ex_isi (Ts := "list") rfl b_isinstance (by decide +kernel) rfl b_list (by decide +kernel) (ex_idx (ex_var (k := .lab none [0] false) 0 rfl (by decide) rfl (by first | exact Or.inl rfl | exact Or.inr (Or.inl rfl) | exact Or.inr (Or.inr rfl))) (ex_int))))) (ew_or1 (et_ne hr.units (ex_var (k := .lab none [0] false) 0 rfl (by decide) rfl (by first | exact Or.inl rfl | exact Or.inr (Or.inl rfl) | exact Or.inr (Or.inr rfl))) (ex_var (k := .lab none [0] false) 1 rfl (by decide) rfl (by first | exact Or.inl rfl | exact Or.inr (Or.inl rfl) | exact Or.inr (Or.inr rfl)))))))))
        (ss_one (sx_ret (ex_bl)))
        (ss_nil))
        (ss_cons (sx_if (et_w (ew_or (et_not (et_val (ex_calls_flat c__law_whole (hr.mono (by decide)) rfl (ea_cons (ex_flat (ex_idx (ex_var (k := .lab none [0] false) 0 rfl (by decide) rfl (by first | exact Or.inl rfl | exact Or.inr (Or.inl rfl) | exact Or.inr (Or.inr rfl))) (ex_int))) (ea_nil))))) (ew_or1 (et_not (et_val (ex_calls_flat c__law_whole (hr.mono (by decide)) rfl (ea_cons (ex_flat (ex_idx (ex_var (k := .lab none [0] false) 0 rfl (by decide) rfl (by first | exact Or.inl rfl | exact Or.inr (Or.inl rfl) | exact Or.inr (Or.inr rfl))) (ex_int))) (ea_nil))))))))
        (ss_one (sx_ret (ex_bl)))
        (ss_nil))
        (ss_cons (sx_for 2 rfl PassesOwn.never (ei_list (ex_idx (ex_var (k := .lab none [0] false) 0 rfl (by decide) rfl (by first | exact Or.inl rfl | exact Or.inr (Or.inl rfl) | exact Or.inr (Or.inr rfl))) (ex_int))) (eg_name sc.nd (i := 2) rfl (by first | exact Or.inl rfl | exact Or.inr rfl))
        (ss_conv (Γ' := [.lab none [0] false, .lab none [0] false, .dead, .dead]) [] (ss_one (sx_if (et_w (ew_or (et_not (et_val (ex_isi (Ts := "list") rfl b_isinstance (by decide +kernel) rfl b_list (by decide +kernel) (ex_var (k := .lab none [0] false) 2 rfl (by decide) rfl (by first | exact Or.inl rfl | exact Or.inr (Or.inl rfl) | exact Or.inr (Or.inr rfl)))))) (ew_or1 (et_not (et_val (ex_callB (cr_all rfl) cp_all rfl b_all (by decide +kernel) (ea_cons (ex_lc (own := [("_law_number", 3)]) 3 rfl sc.nd (ei_list (ex_var (k := .lab none [0] false) 2 rfl (by decide) rfl (by first | exact Or.inl rfl | exact Or.inr (Or.inl rfl) | exact Or.inr (Or.inr rfl)))) (blkOk_by (by kernel_rfl)) (fun _ _ _ _ _ => eg_flat (eg_name sc.nd (i := 3) rfl (by first | exact Or.inl rfl | exact Or.inr rfl))) (fun _ _ _ _ _ => ets_nil) (fun _ _ _ _ _ => ex_calls_flat c__law_whole (hr.mono (by decide)) rfl (ea_cons (ex_var (k := .flat) 3 rfl (by decide) rfl (by first | exact Or.inl rfl | exact Or.inr (Or.inl rfl) | exact Or.inr (Or.inr rfl))) (ea_nil)))) (ea_nil))))))))
        (ss_one (sx_ret (ex_bl)))
        (ss_nil))) (by decide) (by decide)))
        (ss_one (sx_ret (ex_bl))))))
theorem cal__law_same {f : Addr} {fd : FuncData} (F : FnP K "_law_same" s__law_same f fd) (h : mg "_law_same" = some (.ref f)) (b_all : mg "all" = none) (b_isinstance : mg "isinstance" = none) (b_len : mg "len" = none) (b_list : mg "list" = none) (b_tuple : mg "tuple" = none) (c__law_whole : Cal P w K mg base "_law_whole" 1 ["_law_thing"] f__law_whole .flat) : Cal P w K mg base "_law_same" 2 ["_law_found", "_law_due_here"] f__law_same .flat :=
  ⟨f, fd, ok__law_same F b_all b_isinstance b_len b_list b_tuple c__law_whole, h, F.kp, FunD.bindsN F fun _ _ _ _ _ _ us hl => match us, hl with | [_, _], _ => rfl⟩
theorem sc__law_cell_at : FnScope N__law_cell_at ["_law_script", "_law_k"] (defScope s__law_cell_at) := ⟨rfl, rfl, rfl, by decide +kernel, rfl, by decide +kernel, by decide +kernel⟩
theorem ok__law_cell_at {f : Addr} {fd : FuncData} (F : FnP K "_law_cell_at" s__law_cell_at f fd) (b_len : mg "len" = none) : FnOk P w K mg base CX0 1 f fd ["_law_script", "_law_k"] (sp0 ⟨mg, K⟩ f__law_cell_at 2 .flat) := by
  have sc := sc__law_cell_at
  let N : List Str := N__law_cell_at
  let st : Stmt := s__law_cell_at
  refine fn_ok0 (Γ' := []) (sc := ⟨[], .flat, [], []⟩) (k := 0) F sc [.flat, .flat] rfl (by decide) rfl fun cdv A outer s0 H E hr => ?_
  exact (ss_cons (sx_if (et_lt (ex_var (k := .flat) 1 rfl (by decide) rfl (by first | exact Or.inl rfl | exact Or.inr (Or.inl rfl) | exact Or.inr (Or.inr rfl))) (ex_callB call_len cp_len rfl b_len boot_len (ea_cons (ex_var (k := .flat) 0 rfl (by decide) rfl (by first | exact Or.inl rfl | exact Or.inr (Or.inl rfl) | exact Or.inr (Or.inr rfl))) (ea_nil))))
        (ss_one (sx_ret (ex_idx (ex_var (k := .flat) 0 rfl (by decide) rfl (by first | exact Or.inl rfl | exact Or.inr (Or.inl rfl) | exact Or.inr (Or.inr rfl))) (ex_var (k := .flat) 1 rfl (by decide) rfl (by first | exact Or.inl rfl | exact Or.inr (Or.inl rfl) | exact Or.inr (Or.inr rfl))))))
        (ss_nil))
        (ss_one (sx_ret (ex_int))))
theorem cal__law_cell_at {f : Addr} {fd : FuncData} (F : FnP K "_law_cell_at" s__law_cell_at f fd) (h : mg "_law_cell_at" = some (.ref f)) (b_len : mg "len" = none) : Cal P w K mg base "_law_cell_at" 1 ["_law_script", "_law_k"] f__law_cell_at .flat :=
  ⟨f, fd, ok__law_cell_at F b_len, h, F.kp, FunD.bindsN F fun _ _ _ _ _ _ us hl => match us, hl with | [_, _], _ => rfl⟩
theorem sc__law_times : FnScope N__law_times ["_law_one", "_law_other"] (defScope s__law_times) := ⟨rfl, rfl, rfl, by decide +kernel, rfl, by decide +kernel, by decide +kernel⟩
theorem ok__law_times {f : Addr} {fd : FuncData} (F : FnP K "_law_times" s__law_times f fd) (b_range : mg "range" = none) (b_sum : mg "sum" = none) : FnOk P w K mg base CX0 1 f fd ["_law_one", "_law_other"] (sp0 ⟨mg, K⟩ f__law_times 2 .fresh) := by
  have sc := sc__law_times
  let N : List Str := N__law_times
  let st : Stmt := s__law_times
  refine fn_ok0 (Γ' := []) (sc := ⟨[], .fresh, [], []⟩) (k := 0) F sc [.lab none [0] false, .lab none [0] false] rfl (by decide) rfl fun cdv A outer s0 H E hr => ?_
  exact (ss_cons (sx_set (i := 2) 2 3 sc.nd rfl (by first | exact Or.inl rfl | exact Or.inr rfl) (ex_lst (ea_nil)))
        (ss_cons (sx_pre (Γ1 := [.lab none [0] false, .lab none [0] false, .lab (some 2) [902] true, .dead, .dead, .dead]) [] (sx_for 4 rfl PassesOwn.never (ei_range1 rfl b_range (ea_cons (ex_flat (ex_idx (ex_var (k := .lab none [0] false) 0 rfl (by decide) rfl (by first | exact Or.inl rfl | exact Or.inr (Or.inl rfl) | exact Or.inr (Or.inr rfl))) (ex_int))) (ea_nil))) (eg_name sc.nd (i := 3) rfl (by first | exact Or.inl rfl | exact Or.inr rfl))
        (ss_conv (Γ' := [.lab none [0] false, .lab none [0] false, .lab (some 2) [902] true, .dead, .dead, .dead]) [(7, 902)] (ss_one (sx_append (i := 2) (n := 2) (L := [902]) (nd := true) 7 rfl rfl (by first | exact Or.inl rfl | exact Or.inr (Or.inl rfl) | exact Or.inr (Or.inr rfl)) (ex_lc (own := [("_law_j", 4)]) 5 rfl sc.nd (ei_range1 rfl b_range (ea_cons (ex_flat (ex_idx (ex_var (k := .lab none [0] false) 1 rfl (by decide) rfl (by first | exact Or.inl rfl | exact Or.inr (Or.inl rfl) | exact Or.inr (Or.inr rfl))) (ex_int))) (ea_nil))) (blkOk_by (by kernel_rfl)) (fun _ _ _ _ _ => eg_name sc.nd (i := 4) rfl (by first | exact Or.inl rfl | exact Or.inr rfl)) (fun _ _ _ _ _ => ets_nil) (fun _ _ _ _ _ => ex_callB (cr_sum rfl) cp_sum rfl b_sum (by decide +kernel) (ea_cons (ex_lc (own := [("_law_k", 5)]) 6 rfl sc.nd (ei_range1 rfl b_range (ea_cons (ex_flat (ex_idx (ex_var (k := .lab none [0] false) 0 rfl (by decide) rfl (by first | exact Or.inl rfl | exact Or.inr (Or.inl rfl) | exact Or.inr (Or.inr rfl))) (ex_int))) (ea_nil))) (blkOk_by (by kernel_rfl)) (fun _ _ _ _ _ => eg_name sc.nd (i := 5) rfl (by first | exact Or.inl rfl | exact Or.inr rfl)) (fun _ _ _ _ _ => ets_nil) (fun _ _ _ _ _ => ex_mul (ex_flat (ex_idx (ex_idx (ex_idx (ex_var (k := .lab none [0] false) 0 rfl (by decide) rfl (by first | exact Or.inl rfl | exact Or.inr (Or.inl rfl) | exact Or.inr (Or.inr rfl))) (ex_int)) (ex_var (k := .flat) 3 rfl (by decide) rfl (by first | exact Or.inl rfl | exact Or.inr (Or.inl rfl) | exact Or.inr (Or.inr rfl)))) (ex_var (k := .flat) 5 rfl (by decide) rfl (by first | exact Or.inl rfl | exact Or.inr (Or.inl rfl) | exact Or.inr (Or.inr rfl))))) (ex_flat (ex_idx (ex_idx (ex_idx (ex_var (k := .lab none [0] false) 1 rfl (by decide) rfl (by first | exact Or.inl rfl | exact Or.inr (Or.inl rfl) | exact Or.inr (Or.inr rfl))) (ex_int)) (ex_var (k := .flat) 5 rfl (by decide) rfl (by first | exact Or.inl rfl | exact Or.inr (Or.inl rfl) | exact Or.inr (Or.inr rfl)))) (ex_var (k := .flat) 4 rfl (by decide) rfl (by first | exact Or.inl rfl | exact Or.inr (Or.inl rfl) | exact Or.inr (Or.inr rfl))))))) (ea_nil)))))) (by decide) (by decide))) (by decide) (by decide))
        (ss_one (sx_ret (ex_tup (ea_cons (ex_flat (ex_idx (ex_var (k := .lab none [0] false) 0 rfl (by decide) rfl (by first | exact Or.inl rfl | exact Or.inr (Or.inl rfl) | exact Or.inr (Or.inr rfl))) (ex_int))) (ea_cons (ex_flat (ex_idx (ex_var (k := .lab none [0] false) 1 rfl (by decide) rfl (by first | exact Or.inl rfl | exact Or.inr (Or.inl rfl) | exact Or.inr (Or.inr rfl))) (ex_int))) (ea_cons (ex_var (k := .lab (some 2) [902] true) 2 rfl (by decide) rfl (by first | exact Or.inl rfl | exact Or.inr (Or.inl rfl) | exact Or.inr (Or.inr rfl))) (ea_nil)))))))))
theorem cal__law_times {f : Addr} {fd : FuncData} (F : FnP K "_law_times" s__law_times f fd) (h : mg "_law_times" = some (.ref f)) (b_range : mg "range" = none) (b_sum : mg "sum" = none) : Cal P w K mg base "_law_times" 1 ["_law_one", "_law_other"] f__law_times .fresh :=
  ⟨f, fd, ok__law_times F b_range b_sum, h, F.kp, FunD.bindsN F fun _ _ _ _ _ _ us hl => match us, hl with | [_, _], _ => rfl⟩
theorem sc_unit : FnScope N_unit ["many"] (defScope s_unit) := ⟨rfl, rfl, rfl, by decide +kernel, rfl, by decide +kernel, by decide +kernel⟩
theorem ok_unit {f : Addr} {fd : FuncData} (F : FnP K "unit" s_unit f fd) (b_int : mg "int" = none) (b_range : mg "range" = none) : FnOk P w K mg base CX0 1 f fd ["many"] (sp0 ⟨mg, K⟩ f_unit 1 .fresh) := by
  have sc := sc_unit
  let N : List Str := N_unit
  let st : Stmt := s_unit
  refine fn_ok0 (Γ' := []) (sc := ⟨[], .fresh, [], []⟩) (k := 0) F sc [.flat] rfl (by decide) rfl fun cdv A outer s0 H E hr => ?_
  exact (ss_one (sx_ret (ex_tup (ea_cons (ex_var (k := .flat) 0 rfl (by decide) rfl (by first | exact Or.inl rfl | exact Or.inr (Or.inl rfl) | exact Or.inr (Or.inr rfl))) (ea_cons (ex_var (k := .flat) 0 rfl (by decide) rfl (by first | exact Or.inl rfl | exact Or.inr (Or.inl rfl) | exact Or.inr (Or.inr rfl))) (ea_cons (ex_lc (own := [("row", 1)]) 2 rfl sc.nd (ei_range1 rfl b_range (ea_cons (ex_var (k := .flat) 0 rfl (by decide) rfl (by first | exact Or.inl rfl | exact Or.inr (Or.inl rfl) | exact Or.inr (Or.inr rfl))) (ea_nil))) (blkOk_by (by kernel_rfl)) (fun _ _ _ _ _ => eg_name sc.nd (i := 1) rfl (by first | exact Or.inl rfl | exact Or.inr rfl)) (fun _ _ _ _ _ => ets_nil) (fun _ _ _ _ _ => ex_lc (own := [("place", 2)]) 3 rfl sc.nd (ei_range1 rfl b_range (ea_cons (ex_var (k := .flat) 0 rfl (by decide) rfl (by first | exact Or.inl rfl | exact Or.inr (Or.inl rfl) | exact Or.inr (Or.inr rfl))) (ea_nil))) (blkOk_by (by kernel_rfl)) (fun _ _ _ _ _ => eg_name sc.nd (i := 2) rfl (by first | exact Or.inl rfl | exact Or.inr rfl)) (fun _ _ _ _ _ => ets_nil) (fun _ _ _ _ _ => ex_callTy call_int1 cp_int1 rfl b_int (by decide +kernel) (ea_cons (ex_eq hr.units (ex_var (k := .flat) 1 rfl (by decide) rfl (by first | exact Or.inl rfl | exact Or.inr (Or.inl rfl) | exact Or.inr (Or.inr rfl))) (ex_var (k := .flat) 2 rfl (by decide) rfl (by first | exact Or.inl rfl | exact Or.inr (Or.inl rfl) | exact Or.inr (Or.inr rfl)))) (ea_nil))))) (ea_nil)))))))
theorem cal_unit {f : Addr} {fd : FuncData} (F : FnP K "unit" s_unit f fd) (h : mg "unit" = some (.ref f)) (b_int : mg "int" = none) (b_range : mg "range" = none) : Cal P w K mg base "unit" 1 ["many"] f_unit .fresh :=
  ⟨f, fd, ok_unit F b_int b_range, h, F.kp, FunD.bindsN F fun _ _ _ _ _ _ us hl => match us, hl with | [_], _ => rfl⟩
theorem sc_plus : FnScope N_plus ["one", "other"] (defScope s_plus) := ⟨rfl, rfl, rfl, by decide +kernel, rfl, by decide +kernel, by decide +kernel⟩
theorem ok_plus {f : Addr} {fd : FuncData} (F : FnP K "plus" s_plus f fd) (b_zip : mg "zip" = none) : FnOk P w K mg base CX0 1 f fd ["one", "other"] (sp0 ⟨mg, K⟩ f_plus 2 .fresh) := by
  have sc := sc_plus
  let N : List Str := N_plus
  let st : Stmt := s_plus
  refine fn_ok0 (Γ' := []) (sc := ⟨[], .fresh, [], []⟩) (k := 0) F sc [.lab none [0] false, .lab none [0] false] rfl (by decide) rfl fun cdv A outer s0 H E hr => ?_
  exact (ss_cons (sx_if (et_ne hr.units (ex_flat (ex_slT (ex_var (k := .lab none [0] false) 0 rfl (by decide) rfl (by first | exact Or.inl rfl | exact Or.inr (Or.inl rfl) | exact Or.inr (Or.inr rfl))) (eo_none) (eo_some (ex_int)))) (ex_flat (ex_slT (ex_var (k := .lab none [0] false) 1 rfl (by decide) rfl (by first | exact Or.inl rfl | exact Or.inr (Or.inl rfl) | exact Or.inr (Or.inr rfl))) (eo_none) (eo_some (ex_int)))))
        (ss_one (sx_never))
        (ss_nil))
        (ss_one (sx_ret (ex_tup (ea_cons (ex_flat (ex_idx (ex_var (k := .lab none [0] false) 0 rfl (by decide) rfl (by first | exact Or.inl rfl | exact Or.inr (Or.inl rfl) | exact Or.inr (Or.inr rfl))) (ex_int))) (ea_cons (ex_flat (ex_idx (ex_var (k := .lab none [0] false) 0 rfl (by decide) rfl (by first | exact Or.inl rfl | exact Or.inr (Or.inl rfl) | exact Or.inr (Or.inr rfl))) (ex_int))) (ea_cons (ex_lc (own := [("left", 2), ("right", 3)]) 2 rfl sc.nd (ei_zip rfl b_zip (ex_idx (ex_var (k := .lab none [0] false) 0 rfl (by decide) rfl (by first | exact Or.inl rfl | exact Or.inr (Or.inl rfl) | exact Or.inr (Or.inr rfl))) (ex_int)) (ex_idx (ex_var (k := .lab none [0] false) 1 rfl (by decide) rfl (by first | exact Or.inl rfl | exact Or.inr (Or.inl rfl) | exact Or.inr (Or.inr rfl))) (ex_int))) (blkOk_by (by kernel_rfl)) (fun _ _ _ _ _ => eg_tup rfl (egs_cons (eg_name sc.nd (i := 2) rfl (by first | exact Or.inl rfl | exact Or.inr rfl)) (egs_cons (eg_name sc.nd (i := 3) rfl (by first | exact Or.inl rfl | exact Or.inr rfl)) (egs_nil)))) (fun _ _ _ _ _ => ets_nil) (fun _ _ _ _ _ => ex_lc (own := [("a", 4), ("b", 5)]) 3 rfl sc.nd (ei_zip rfl b_zip (ex_var (k := .lab none [0, 0] false) 2 rfl (by decide) rfl (by first | exact Or.inl rfl | exact Or.inr (Or.inl rfl) | exact Or.inr (Or.inr rfl))) (ex_var (k := .lab none [0, 0] false) 3 rfl (by decide) rfl (by first | exact Or.inl rfl | exact Or.inr (Or.inl rfl) | exact Or.inr (Or.inr rfl)))) (blkOk_by (by kernel_rfl)) (fun _ _ _ _ _ => eg_tup rfl (egs_cons (eg_flat (eg_name sc.nd (i := 4) rfl (by first | exact Or.inl rfl | exact Or.inr rfl))) (egs_cons (eg_flat (eg_name sc.nd (i := 5) rfl (by first | exact Or.inl rfl | exact Or.inr rfl))) (egs_nil)))) (fun _ _ _ _ _ => ets_nil) (fun _ _ _ _ _ => ex_add (ex_var (k := .flat) 4 rfl (by decide) rfl (by first | exact Or.inl rfl | exact Or.inr (Or.inl rfl) | exact Or.inr (Or.inr rfl))) (ex_var (k := .flat) 5 rfl (by decide) rfl (by first | exact Or.inl rfl | exact Or.inr (Or.inl rfl) | exact Or.inr (Or.inr rfl)))))) (ea_nil))))))))
theorem cal_plus {f : Addr} {fd : FuncData} (F : FnP K "plus" s_plus f fd) (h : mg "plus" = some (.ref f)) (b_zip : mg "zip" = none) : Cal P w K mg base "plus" 1 ["one", "other"] f_plus .fresh :=
  ⟨f, fd, ok_plus F b_zip, h, F.kp, FunD.bindsN F fun _ _ _ _ _ _ us hl => match us, hl with | [_, _], _ => rfl⟩
theorem sc_many_times : FnScope N_many_times ["number", "one"] (defScope s_many_times) := ⟨rfl, rfl, rfl, by decide +kernel, rfl, by decide +kernel, by decide +kernel⟩
theorem ok_many_times {f : Addr} {fd : FuncData} (F : FnP K "many_times" s_many_times f fd) : FnOk P w K mg base CX0 1 f fd ["number", "one"] (sp0 ⟨mg, K⟩ f_many_times 2 .fresh) := by
  have sc := sc_many_times
  let N : List Str := N_many_times
  let st : Stmt := s_many_times
  refine fn_ok0 (Γ' := []) (sc := ⟨[], .fresh, [], []⟩) (k := 0) F sc [.flat, .lab none [0] false] rfl (by decide) rfl fun cdv A outer s0 H E hr => ?_
  exact (ss_one (sx_ret (ex_tup (ea_cons (ex_flat (ex_idx (ex_var (k := .lab none [0] false) 1 rfl (by decide) rfl (by first | exact Or.inl rfl | exact Or.inr (Or.inl rfl) | exact Or.inr (Or.inr rfl))) (ex_int))) (ea_cons (ex_flat (ex_idx (ex_var (k := .lab none [0] false) 1 rfl (by decide) rfl (by first | exact Or.inl rfl | exact Or.inr (Or.inl rfl) | exact Or.inr (Or.inr rfl))) (ex_int))) (ea_cons (ex_lc (own := [("row", 2)]) 2 rfl sc.nd (ei_list (ex_idx (ex_var (k := .lab none [0] false) 1 rfl (by decide) rfl (by first | exact Or.inl rfl | exact Or.inr (Or.inl rfl) | exact Or.inr (Or.inr rfl))) (ex_int))) (blkOk_by (by kernel_rfl)) (fun _ _ _ _ _ => eg_name sc.nd (i := 2) rfl (by first | exact Or.inl rfl | exact Or.inr rfl)) (fun _ _ _ _ _ => ets_nil) (fun _ _ _ _ _ => ex_lc (own := [("entry", 3)]) 3 rfl sc.nd (ei_list (ex_var (k := .lab none [0] false) 2 rfl (by decide) rfl (by first | exact Or.inl rfl | exact Or.inr (Or.inl rfl) | exact Or.inr (Or.inr rfl)))) (blkOk_by (by kernel_rfl)) (fun _ _ _ _ _ => eg_flat (eg_name sc.nd (i := 3) rfl (by first | exact Or.inl rfl | exact Or.inr rfl))) (fun _ _ _ _ _ => ets_nil) (fun _ _ _ _ _ => ex_mul (ex_var (k := .flat) 0 rfl (by decide) rfl (by first | exact Or.inl rfl | exact Or.inr (Or.inl rfl) | exact Or.inr (Or.inr rfl))) (ex_var (k := .flat) 3 rfl (by decide) rfl (by first | exact Or.inl rfl | exact Or.inr (Or.inl rfl) | exact Or.inr (Or.inr rfl)))))) (ea_nil)))))))
theorem cal_many_times {f : Addr} {fd : FuncData} (F : FnP K "many_times" s_many_times f fd) (h : mg "many_times" = some (.ref f)) : Cal P w K mg base "many_times" 1 ["number", "one"] f_many_times .fresh :=
  ⟨f, fd, ok_many_times F, h, F.kp, FunD.bindsN F fun _ _ _ _ _ _ us hl => match us, hl with | [_, _], _ => rfl⟩
theorem sc_turned : FnScope N_turned ["one"] (defScope s_turned) := ⟨rfl, rfl, rfl, by decide +kernel, rfl, by decide +kernel, by decide +kernel⟩
theorem ok_turned {f : Addr} {fd : FuncData} (F : FnP K "turned" s_turned f fd) (b_range : mg "range" = none) : FnOk P w K mg base CX0 1 f fd ["one"] (sp0 ⟨mg, K⟩ f_turned 1 .fresh) := by
  have sc := sc_turned
  let N : List Str := N_turned
  let st : Stmt := s_turned
  refine fn_ok0 (Γ' := []) (sc := ⟨[], .fresh, [], []⟩) (k := 0) F sc [.lab none [0] false] rfl (by decide) rfl fun cdv A outer s0 H E hr => ?_
  exact (ss_cons (sx_asg 2 3 (ex_var (k := .lab none [0] false) 0 rfl (by decide) rfl (by first | exact Or.inl rfl | exact Or.inr (Or.inl rfl) | exact Or.inr (Or.inr rfl))) (eg_tup rfl (egs_cons (eg_flat (eg_name sc.nd (i := 1) rfl (by first | exact Or.inl rfl | exact Or.inr rfl))) (egs_cons (eg_flat (eg_name sc.nd (i := 2) rfl (by first | exact Or.inl rfl | exact Or.inr rfl))) (egs_cons (eg_name sc.nd (i := 3) rfl (by first | exact Or.inl rfl | exact Or.inr rfl)) (egs_nil))))))
        (ss_one (sx_ret (ex_tup (ea_cons (ex_var (k := .flat) 2 rfl (by decide) rfl (by first | exact Or.inl rfl | exact Or.inr (Or.inl rfl) | exact Or.inr (Or.inr rfl))) (ea_cons (ex_var (k := .flat) 1 rfl (by decide) rfl (by first | exact Or.inl rfl | exact Or.inr (Or.inl rfl) | exact Or.inr (Or.inr rfl))) (ea_cons (ex_lc (own := [("place", 4)]) 4 rfl sc.nd (ei_range1 rfl b_range (ea_cons (ex_var (k := .flat) 2 rfl (by decide) rfl (by first | exact Or.inl rfl | exact Or.inr (Or.inl rfl) | exact Or.inr (Or.inr rfl))) (ea_nil))) (blkOk_by (by kernel_rfl)) (fun _ _ _ _ _ => eg_name sc.nd (i := 4) rfl (by first | exact Or.inl rfl | exact Or.inr rfl)) (fun _ _ _ _ _ => ets_nil) (fun _ _ _ _ _ => ex_lc (own := [("row", 5)]) 5 rfl sc.nd (ei_range1 rfl b_range (ea_cons (ex_var (k := .flat) 1 rfl (by decide) rfl (by first | exact Or.inl rfl | exact Or.inr (Or.inl rfl) | exact Or.inr (Or.inr rfl))) (ea_nil))) (blkOk_by (by kernel_rfl)) (fun _ _ _ _ _ => eg_name sc.nd (i := 5) rfl (by first | exact Or.inl rfl | exact Or.inr rfl)) (fun _ _ _ _ _ => ets_nil) (fun _ _ _ _ _ => ex_flat (ex_idx (ex_idx (ex_var (k := .lab none [0] false) 3 rfl (by decide) rfl (by first | exact Or.inl rfl | exact Or.inr (Or.inl rfl) | exact Or.inr (Or.inr rfl))) (ex_var (k := .flat) 5 rfl (by decide) rfl (by first | exact Or.inl rfl | exact Or.inr (Or.inl rfl) | exact Or.inr (Or.inr rfl)))) (ex_var (k := .flat) 4 rfl (by decide) rfl (by first | exact Or.inl rfl | exact Or.inr (Or.inl rfl) | exact Or.inr (Or.inr rfl))))))) (ea_nil))))))))
theorem cal_turned {f : Addr} {fd : FuncData} (F : FnP K "turned" s_turned f fd) (h : mg "turned" = some (.ref f)) (b_range : mg "range" = none) : Cal P w K mg base "turned" 1 ["one"] f_turned .fresh :=
  ⟨f, fd, ok_turned F b_range, h, F.kp, FunD.bindsN F fun _ _ _ _ _ _ us hl => match us, hl with | [_], _ => rfl⟩
theorem sc_product : FnScope N_product ["one", "other"] (defScope s_product) := ⟨rfl, rfl, rfl, by decide +kernel, rfl, by decide +kernel, by decide +kernel⟩
theorem ok_product {f : Addr} {fd : FuncData} (F : FnP K "product" s_product f fd) (b_zip : mg "zip" = none) : FnOk P w K mg base CX0 1 f fd ["one", "other"] (sp0 ⟨mg, K⟩ f_product 2 .fresh) := by
  have sc := sc_product
  let N : List Str := N_product
  let st : Stmt := s_product
  refine fn_ok0 (Γ' := []) (sc := ⟨[], .fresh, [], []⟩) (k := 0) F sc [.lab none [0] false, .lab none [0] false] rfl (by decide) rfl fun cdv A outer s0 H E hr => ?_
  exact (ss_cons (sx_if (et_ne hr.units (ex_flat (ex_idx (ex_var (k := .lab none [0] false) 0 rfl (by decide) rfl (by first | exact Or.inl rfl | exact Or.inr (Or.inl rfl) | exact Or.inr (Or.inr rfl))) (ex_int))) (ex_flat (ex_idx (ex_var (k := .lab none [0] false) 1 rfl (by decide) rfl (by first | exact Or.inl rfl | exact Or.inr (Or.inl rfl) | exact Or.inr (Or.inr rfl))) (ex_int))))
        (ss_one (sx_never))
        (ss_nil))
        (ss_cons (sx_set (i := 2) 2 3 sc.nd rfl (by first | exact Or.inl rfl | exact Or.inr rfl) (ex_lst (ea_nil)))
        (ss_cons (sx_pre (Γ1 := [.lab none [0] false, .lab none [0] false, .lab (some 2) [902] true, .dead, .dead, .dead, .dead, .dead, .dead]) [] (sx_for 4 rfl PassesOwn.never (ei_list (ex_idx (ex_var (k := .lab none [0] false) 0 rfl (by decide) rfl (by first | exact Or.inl rfl | exact Or.inr (Or.inl rfl) | exact Or.inr (Or.inr rfl))) (ex_int))) (eg_name sc.nd (i := 3) rfl (by first | exact Or.inl rfl | exact Or.inr rfl))
        (ss_conv (Γ' := [.lab none [0] false, .lab none [0] false, .lab (some 2) [902] true, .dead, .dead, .dead, .dead, .dead, .dead]) [(5, 902), (10, 902)] (ss_cons (sx_set (i := 4) 5 6 sc.nd rfl (by first | exact Or.inl rfl | exact Or.inr rfl) (ex_rep (ex_lst (ea_cons (ex_int) (ea_nil))) (ex_flat (ex_idx (ex_var (k := .lab none [0] false) 1 rfl (by decide) rfl (by first | exact Or.inl rfl | exact Or.inr (Or.inl rfl) | exact Or.inr (Or.inr rfl))) (ex_int)))))
        (ss_cons (sx_pre (Γ1 := [.lab none [0] false, .lab none [0] false, .lab (some 2) [902] true, .lab none [0] false, .lab none [5, 10] true, .dead, .dead, .dead, .dead]) [] (sx_for 7 rfl PassesOwn.never (ei_zip rfl b_zip (ex_var (k := .lab none [0] false) 3 rfl (by decide) rfl (by first | exact Or.inl rfl | exact Or.inr (Or.inl rfl) | exact Or.inr (Or.inr rfl))) (ex_idx (ex_var (k := .lab none [0] false) 1 rfl (by decide) rfl (by first | exact Or.inl rfl | exact Or.inr (Or.inl rfl) | exact Or.inr (Or.inr rfl))) (ex_int))) (eg_tup rfl (egs_cons (eg_flat (eg_name sc.nd (i := 5) rfl (by first | exact Or.inl rfl | exact Or.inr rfl))) (egs_cons (eg_name sc.nd (i := 6) rfl (by first | exact Or.inl rfl | exact Or.inr rfl)) (egs_nil))))
        (ss_conv (Γ' := [.lab none [0] false, .lab none [0] false, .lab (some 2) [902] true, .lab none [0] false, .lab none [5, 10] true, .dead, .dead, .dead, .dead]) [] (ss_one (sx_if (et_ne hr.units (ex_var (k := .flat) 5 rfl (by decide) rfl (by first | exact Or.inl rfl | exact Or.inr (Or.inl rfl) | exact Or.inr (Or.inr rfl))) (ex_int))
        (ss_conv (Γ' := [.lab none [0] false, .lab none [0] false, .lab (some 2) [902] true, .lab none [0] false, .lab none [10, 5] true, .flat, .lab none [0, 0] false, .dead, .dead]) [] (ss_one (sx_setLc (i := 4) (own := [("a", 7), ("b", 8)]) 12 10 11 rfl sc.nd rfl rfl (sw_true rfl rfl rfl (by decide +kernel)) (ei_zip rfl b_zip (ex_var (k := .lab none [5, 10] true) 4 rfl (by decide) rfl (by first | exact Or.inl rfl | exact Or.inr (Or.inl rfl) | exact Or.inr (Or.inr rfl))) (ex_var (k := .lab none [0, 0] false) 6 rfl (by decide) rfl (by first | exact Or.inl rfl | exact Or.inr (Or.inl rfl) | exact Or.inr (Or.inr rfl)))) (blkOk_by (by kernel_rfl)) (fun _ _ _ _ _ => eg_tup rfl (egs_cons (eg_flat (eg_name sc.nd (i := 7) rfl (by first | exact Or.inl rfl | exact Or.inr rfl))) (egs_cons (eg_flat (eg_name sc.nd (i := 8) rfl (by first | exact Or.inl rfl | exact Or.inr rfl))) (egs_nil)))) (fun _ _ _ _ _ => ets_nil) (fun _ _ _ _ _ => ex_add (ex_var (k := .flat) 7 rfl (by decide) rfl (by first | exact Or.inl rfl | exact Or.inr (Or.inl rfl) | exact Or.inr (Or.inr rfl))) (ex_mul (ex_var (k := .flat) 5 rfl (by decide) rfl (by first | exact Or.inl rfl | exact Or.inr (Or.inl rfl) | exact Or.inr (Or.inr rfl))) (ex_var (k := .flat) 8 rfl (by decide) rfl (by first | exact Or.inl rfl | exact Or.inr (Or.inl rfl) | exact Or.inr (Or.inr rfl))))))) (by decide) (by decide))
        (ss_conv (Γ' := [.lab none [0] false, .lab none [0] false, .lab (some 2) [902] true, .lab none [0] false, .lab none [10, 5] true, .flat, .lab none [0, 0] false, .dead, .dead]) [] (ss_nil) (by decide) (by decide)))) (by decide) (by decide))) (by decide) (by decide))
        (ss_one (sx_append (i := 2) (n := 2) (L := [902]) (nd := true) 13 rfl rfl (by first | exact Or.inl rfl | exact Or.inr (Or.inl rfl) | exact Or.inr (Or.inr rfl)) (ex_var (k := .lab none [5, 10] true) 4 rfl (by decide) rfl (by first | exact Or.inl rfl | exact Or.inr (Or.inl rfl) | exact Or.inr (Or.inr rfl))))))) (by decide) (by decide))) (by decide) (by decide))
        (ss_one (sx_ret (ex_tup (ea_cons (ex_flat (ex_idx (ex_var (k := .lab none [0] false) 0 rfl (by decide) rfl (by first | exact Or.inl rfl | exact Or.inr (Or.inl rfl) | exact Or.inr (Or.inr rfl))) (ex_int))) (ea_cons (ex_flat (ex_idx (ex_var (k := .lab none [0] false) 1 rfl (by decide) rfl (by first | exact Or.inl rfl | exact Or.inr (Or.inl rfl) | exact Or.inr (Or.inr rfl))) (ex_int))) (ea_cons (ex_var (k := .lab (some 2) [902] true) 2 rfl (by decide) rfl (by first | exact Or.inl rfl | exact Or.inr (Or.inl rfl) | exact Or.inr (Or.inr rfl))) (ea_nil))))))))))
theorem cal_product {f : Addr} {fd : FuncData} (F : FnP K "product" s_product f fd) (h : mg "product" = some (.ref f)) (b_zip : mg "zip" = none) : Cal P w K mg base "product" 1 ["one", "other"] f_product .fresh :=
  ⟨f, fd, ok_product F b_zip, h, F.kp, FunD.bindsN F fun _ _ _ _ _ _ us hl => match us, hl with | [_, _], _ => rfl⟩
theorem sc_nought : FnScope N_nought ["high", "wide"] (defScope s_nought) := ⟨rfl, rfl, rfl, by decide +kernel, rfl, by decide +kernel, by decide +kernel⟩
theorem ok_nought {f : Addr} {fd : FuncData} (F : FnP K "nought" s_nought f fd) (b_range : mg "range" = none) : FnOk P w K mg base CX0 1 f fd ["high", "wide"] (sp0 ⟨mg, K⟩ f_nought 2 .fresh) := by
  have sc := sc_nought
  let N : List Str := N_nought
  let st : Stmt := s_nought
  refine fn_ok0 (Γ' := []) (sc := ⟨[], .fresh, [], []⟩) (k := 0) F sc [.flat, .flat] rfl (by decide) rfl fun cdv A outer s0 H E hr => ?_
  exact (ss_one (sx_ret (ex_tup (ea_cons (ex_var (k := .flat) 0 rfl (by decide) rfl (by first | exact Or.inl rfl | exact Or.inr (Or.inl rfl) | exact Or.inr (Or.inr rfl))) (ea_cons (ex_var (k := .flat) 1 rfl (by decide) rfl (by first | exact Or.inl rfl | exact Or.inr (Or.inl rfl) | exact Or.inr (Or.inr rfl))) (ea_cons (ex_lc (own := [("row", 2)]) 2 rfl sc.nd (ei_range1 rfl b_range (ea_cons (ex_var (k := .flat) 0 rfl (by decide) rfl (by first | exact Or.inl rfl | exact Or.inr (Or.inl rfl) | exact Or.inr (Or.inr rfl))) (ea_nil))) (blkOk_by (by kernel_rfl)) (fun _ _ _ _ _ => eg_name sc.nd (i := 2) rfl (by first | exact Or.inl rfl | exact Or.inr rfl)) (fun _ _ _ _ _ => ets_nil) (fun _ _ _ _ _ => ex_rep (ex_lst (ea_cons (ex_int) (ea_nil))) (ex_var (k := .flat) 1 rfl (by decide) rfl (by first | exact Or.inl rfl | exact Or.inr (Or.inl rfl) | exact Or.inr (Or.inr rfl))))) (ea_nil)))))))
theorem cal_nought {f : Addr} {fd : FuncData} (F : FnP K "nought" s_nought f fd) (h : mg "nought" = some (.ref f)) (b_range : mg "range" = none) : Cal P w K mg base "nought" 1 ["high", "wide"] f_nought .fresh :=
  ⟨f, fd, ok_nought F b_range, h, F.kp, FunD.bindsN F fun _ _ _ _ _ _ us hl => match us, hl with | [_, _], _ => rfl⟩
theorem sc__law_due : FnScope N__law_due ["_law_high", "_law_wide", "_law_entry_here"] (defScope s__law_due) := ⟨rfl, rfl, rfl, by decide +kernel, rfl, by decide +kernel, by decide +kernel⟩
theorem bn__law_due {f : Addr} {fd : FuncData} (F : FnP K "_law_due" s__law_due f fd) : Binds K fd ["_law_high", "_law_wide", "_law_entry_here"] [] := FunD.bindsN F fun _ _ _ _ _ _ us hl => match us, hl with | [_, _, _], _ => rfl
theorem sc__law_told : FnScope N__law_told ["_law_make", "_law_due_here", "_law_handed"] (defScope s__law_told) := ⟨rfl, rfl, rfl, by decide +kernel, rfl, by decide +kernel, by decide +kernel⟩
theorem bn__law_told {f : Addr} {fd : FuncData} (F : FnP K "_law_told" s__law_told f fd) : Binds K fd ["_law_make", "_law_due_here", "_law_handed"] [] := FunD.bindsN F fun _ _ _ _ _ _ us hl => match us, hl with | [_, _, _], _ => rfl
theorem sc__law_apart : FnScope N__law_apart ["_law_found"] (defScope s__law_apart) := ⟨rfl, rfl, rfl, by decide +kernel, rfl, by decide +kernel, by decide +kernel⟩
theorem bn__law_apart {f : Addr} {fd : FuncData} (F : FnP K "_law_apart" s__law_apart f fd) : Binds K fd ["_law_found"] [] := FunD.bindsN F fun _ _ _ _ _ _ us hl => match us, hl with | [_], _ => rfl
theorem sc_law : FnScope N_law ["_law_script"] (defScope s_law) := ⟨rfl, rfl, rfl, by decide +kernel, rfl, by decide +kernel, by decide +kernel⟩
theorem ok__law_due {f : Addr} {fd : FuncData} {x : LamId} {pk : List Kd} {semL : Ev} {fdl : FuncData} (F : FnP K "_law_due" s__law_due f fd) (b_range : mg "range" = none) (hf : ∃ oc od sl, base.get? x.f = some ⟨oc, od, .func fdl, sl⟩) (hbL : ∀ us : List Value, us.length = (["_law_i", "_law_j"] : List Str).length → bindArgs fdl ⟨us, []⟩ = pure ((["_law_i", "_law_j"] : List Str).zip us))
    (FL : FnOk P w K mg base CX0 3 x.f fdl ["_law_i", "_law_j"] (spLam ⟨mg, K⟩ x pk semL (["_law_i", "_law_j"] : List Str).length .flat)) : FnOk P w K mg base CX0 4 f fd ["_law_high", "_law_wide", "_law_entry_here"] (sp0 ⟨mg, K⟩ (f__law_due x pk semL) 3 .fresh) := by
  have sc := sc__law_due
  let N : List Str := N__law_due
  let st : Stmt := s__law_due
  refine fn_ok0 (Γ' := []) (sc := ⟨[], .fresh, [], []⟩) (k := 3) F sc [.flat, .flat, .lab none [0] false] rfl (by decide) rfl fun cdv A outer s0 H E hr => ?_
  exact (ss_one (sx_ret (ex_tup (ea_cons (ex_var (k := .flat) 0 rfl (by decide) rfl (by first | exact Or.inl rfl | exact Or.inr (Or.inl rfl) | exact Or.inr (Or.inr rfl))) (ea_cons (ex_var (k := .flat) 1 rfl (by decide) rfl (by first | exact Or.inl rfl | exact Or.inr (Or.inl rfl) | exact Or.inr (Or.inr rfl))) (ea_cons (ex_lc (own := [("_law_i", 3)]) 2 rfl sc.nd (ei_range1 rfl b_range (ea_cons (ex_var (k := .flat) 0 rfl (by decide) rfl (by first | exact Or.inl rfl | exact Or.inr (Or.inl rfl) | exact Or.inr (Or.inr rfl))) (ea_nil))) (blkOk_by (by kernel_rfl)) (fun _ _ _ _ _ => eg_name sc.nd (i := 3) rfl (by first | exact Or.inl rfl | exact Or.inr rfl)) (fun _ _ _ _ _ => ets_nil) (fun _ _ _ _ _ => ex_lc (own := [("_law_j", 4)]) 3 rfl sc.nd (ei_range1 rfl b_range (ea_cons (ex_var (k := .flat) 1 rfl (by decide) rfl (by first | exact Or.inl rfl | exact Or.inr (Or.inl rfl) | exact Or.inr (Or.inr rfl))) (ea_nil))) (blkOk_by (by kernel_rfl)) (fun _ _ _ _ _ => eg_name sc.nd (i := 4) rfl (by first | exact Or.inl rfl | exact Or.inr rfl)) (fun _ _ _ _ _ => ets_nil) (fun _ _ _ _ _ => ex_clo hf FL (hr.mono (by decide)) hbL (k := .lab none [0] false) (i := 2) rfl rfl rfl (by first | exact Or.inl rfl | exact Or.inr (Or.inl rfl) | exact Or.inr (Or.inr rfl)) (ea_cons (ex_var (k := .flat) 3 rfl (by decide) rfl (by first | exact Or.inl rfl | exact Or.inr (Or.inl rfl) | exact Or.inr (Or.inr rfl))) (ea_cons (ex_var (k := .flat) 4 rfl (by decide) rfl (by first | exact Or.inl rfl | exact Or.inr (Or.inl rfl) | exact Or.inr (Or.inr rfl))) (ea_nil)))))) (ea_nil)))))))
theorem ok__law_told {f : Addr} {fd : FuncData} {x : LamId} {pk : List Kd} {semL : Ev} {fdl : FuncData} (F : FnP K "_law_told" s__law_told f fd) (b_range : mg "range" = none) (c__law_copy : Cal P w K mg base "_law_copy" 1 ["_law_one"] f__law_copy .fresh) (c__law_same : Cal P w K mg base "_law_same" 2 ["_law_found", "_law_due_here"] f__law_same .flat) (c__law_apart : CalAp P w K mg base "_law_apart" 1) (hf : ∃ oc od sl, base.get? x.f = some ⟨oc, od, .func fdl, sl⟩) (hbL : ∀ us : List Value, us.length = (([] : List Str) : List Str).length → bindArgs fdl ⟨us, []⟩ = pure ((([] : List Str) : List Str).zip us))
    (FL : FnOk P w K mg base CX0 3 x.f fdl ([] : List Str) (spLam ⟨mg, K⟩ x pk semL (([] : List Str) : List Str).length .fresh)) : FnOk P w K mg base CX0 4 f fd ["_law_make", "_law_due_here", "_law_handed"] (sp0 ⟨mg, K⟩ (f__law_told x pk semL) 3 .flat) := by
  have sc := sc__law_told
  let N : List Str := N__law_told
  let st : Stmt := s__law_told
  refine fn_ok0 (Γ' := []) (sc := ⟨[], .flat, [], []⟩) (k := 3) F sc [.lab none [0] false, .lab none [0] false, .lab none [0] false] rfl (by decide) rfl fun cdv A outer s0 H E hr => ?_
  exact (ss_cons (sx_setLc (i := 3) (own := [("_law_one", 6)]) 6 4 5 rfl sc.nd rfl rfl (sw_true rfl rfl rfl (by decide +kernel)) (ei_list (ex_var (k := .lab none [0] false) 2 rfl (by decide) rfl (by first | exact Or.inl rfl | exact Or.inr (Or.inl rfl) | exact Or.inr (Or.inr rfl)))) (blkOk_by (by kernel_rfl)) (fun _ _ _ _ _ => eg_name sc.nd (i := 6) rfl (by first | exact Or.inl rfl | exact Or.inr rfl)) (fun _ _ _ _ _ => ets_nil) (fun _ _ _ _ _ => ex_calls_fresh c__law_copy (hr.mono (by decide)) rfl (ea_cons (ex_var (k := .lab none [0] false) 6 rfl (by decide) rfl (by first | exact Or.inl rfl | exact Or.inr (Or.inl rfl) | exact Or.inr (Or.inr rfl))) (ea_nil))))
        (ss_cons (sx_for 7 rfl PassesOwn.never (ei_range1 rfl b_range (ea_cons (ex_int) (ea_nil))) (eg_name sc.nd (i := 4) rfl (by first | exact Or.inl rfl | exact Or.inr rfl))
        (ss_conv (Γ' := [.lab none [0] false, .lab none [0] false, .lab none [0] false, .lab (some 4) [5] true, .dead, .dead, .dead]) [] (ss_cons (sx_set (i := 5) 8 9 sc.nd rfl (by first | exact Or.inl rfl | exact Or.inr rfl) (ex_clo0 hf FL (hr.mono (by decide)) hbL (k := .lab none [0] false) (i := 0) rfl rfl rfl (by first | exact Or.inl rfl | exact Or.inr (Or.inl rfl) | exact Or.inr (Or.inr rfl))))
        (ss_one (sx_ifM (Γ2 := []) (etm_w (ewm_or [] (etm_pure (et_not (et_val (ex_calls_flat c__law_same (hr.mono (by decide)) rfl (ea_cons (ex_var (k := .lab (some 8) [9] true) 5 rfl (by decide) rfl (by first | exact Or.inl rfl | exact Or.inr (Or.inl rfl) | exact Or.inr (Or.inr rfl))) (ea_cons (ex_var (k := .lab none [0] false) 1 rfl (by decide) rfl (by first | exact Or.inl rfl | exact Or.inr (Or.inl rfl) | exact Or.inr (Or.inr rfl))) (ea_nil))))))) (ewm_or [] (etm_not (em_apart (i := 5) (rt := some 8) (L := [9]) c__law_apart (hr.mono (by decide)) rfl rfl rfl (by first | exact Or.inl rfl | exact Or.inr (Or.inl rfl) | exact Or.inr (Or.inr rfl)) rfl)) (ewm_or1 (etm_pure (et_ne hr.units (ex_var (k := .lab none [0] false) 2 rfl (by decide) rfl (by first | exact Or.inl rfl | exact Or.inr (Or.inl rfl) | exact Or.inr (Or.inr rfl))) (ex_var (k := .lab (some 4) [5] true) 3 rfl (by decide) rfl (by first | exact Or.inl rfl | exact Or.inr (Or.inl rfl) | exact Or.inr (Or.inr rfl)))))) (by decide) (by decide)) (by decide) (by decide)))
        (ss_one (sx_ret (ex_bl)))))) (by decide) (by decide)))
        (ss_one (sx_ret (ex_bl)))))
theorem ok__law_apart {f : Addr} {fd : FuncData} (F : FnP K "_law_apart" s__law_apart f fd) (b_len : mg "len" = none) : FnOk P w K mg base CX0 1 f fd ["_law_found"] (spAp ⟨mg, K⟩) := by
  have sc := sc__law_apart
  refine F.ok sc (fun vs H Q E h => h.1) fun cdv A outer s0 H vs Q E hr h => ?_
  obtain ⟨hl, a, b, hi, wd, rows, us, fp, rfl, h1, h2, h3, h4, h5, h6, q⟩ := h
  obtain ⟨t, p, k⟩ : ∃ t, PSs (cxOf CX0 P w K mg base N__law_apart "_law_apart" (defScope s__law_apart) f cdv A outer s0 H E).nox (defBody s__law_apart) t ∧ _ := apart_run (X := (cxOf CX0 P w K mg base N__law_apart "_law_apart" (defScope s__law_apart) f cdv A outer s0 H E).nox) (semT := (tOf (eP dNe (aCons (eP dLen (aCons (eVar 1) aNil)) (aCons (eChk D.isFlat (eP dIdx (aCons (eVar 0) (aCons (eC (.int 1)) aNil)))) aNil))))) PassesOwn.never rfl sc.nd rfl rfl rfl (by exact Or.inl rfl) (by exact Or.inl rfl) (by exact Or.inl rfl) (by exact Or.inl rfl)
    (by exact et_ne hr.units (ex_callB call_len cp_len rfl b_len boot_len (ea_cons (ex_var (k := .lab none [0] false) 1 rfl (by decide) rfl (by first | exact Or.inl rfl | exact Or.inr (Or.inl rfl) | exact Or.inr (Or.inr rfl))) (ea_nil))) (ex_flat (ex_idx (ex_var (k := .lab none [0] false) 0 rfl (by decide) rfl (by first | exact Or.inl rfl | exact Or.inr (Or.inl rfl) | exact Or.inr (Or.inr rfl))) (ex_int)))) (by
      intro hi wd rows r e1 e2
      subst e1
      simp [tOf, Option.filter, D.isFlat, Option.ob]) (by exact rfl) (by exact rfl) (by exact rfl) (by exact rfl) (by exact rfl) (by exact rfl) (by exact fun _ => rfl) (by exact rfl) (by exact rfl) (by exact rfl) (by exact rfl) (by exact rfl) (by exact rfl) (by exact rfl)
  exact ⟨t, p.nox, k _ _ _ a b hi wd rows us fp rfl rfl h1 h2 h3 h4 h5 h6 fun H' r => q H' r⟩
theorem cal__law_apart {f : Addr} {fd : FuncData} (F : FnP K "_law_apart" s__law_apart f fd) (h : mg "_law_apart" = some (.ref f)) (b_len : mg "len" = none) : CalAp P w K mg base "_law_apart" 1 := ⟨f, fd, ok__law_apart F b_len, h, F.kp, bn__law_apart F⟩
abbrev qn : Str := ("law" : Str) ++ ".<locals>." ++ "<lambda>"
theorem ok_law {f gd gt c Pt : Addr} {fd fdd fdt : FuncData} (F : FnP K "law" s_law f fd) (hc : ∀ (oc : Value) (od : Option Addr) (osl : Array (Option Value)) (fdx : FuncData), K.lookup f = some ⟨oc, od, .func fdx, osl⟩ → fdx.code = .ref c) (TB : LamX.TabB base mg c Pt)
    (F__law_due : FnP K "_law_due" s__law_due gd fdd) (g__law_due : mg "_law_due" = some (.ref gd)) (F__law_told : FnP K "_law_told" s__law_told gt fdt) (g__law_told : mg "_law_told" = some (.ref gt)) (c__law_apart : ∀ base, CalAp P w K mg base "_law_apart" 1) (b_int : mg "int" = none) (b_range : mg "range" = none) (c__law_sizes : ∀ base, Cal P w K mg base "_law_sizes" 2 ["_law_cell"] f__law_sizes .fresh) (c__law_table : ∀ base, Cal P w K mg base "_law_table" 2 ["_law_cell", "_law_high", "_law_wide"] f__law_table .fresh) (c__law_copy : ∀ base, Cal P w K mg base "_law_copy" 1 ["_law_one"] f__law_copy .fresh) (c__law_same : ∀ base, Cal P w K mg base "_law_same" 2 ["_law_found", "_law_due_here"] f__law_same .flat) (c__law_cell_at : ∀ base, Cal P w K mg base "_law_cell_at" 1 ["_law_script", "_law_k"] f__law_cell_at .flat) (c__law_times : ∀ base, Cal P w K mg base "_law_times" 1 ["_law_one", "_law_other"] f__law_times .fresh) (c_unit : ∀ base, Cal P w K mg base "unit" 1 ["many"] f_unit .fresh) (c_plus : ∀ base, Cal P w K mg base "plus" 1 ["one", "other"] f_plus .fresh) (c_many_times : ∀ base, Cal P w K mg base "many_times" 1 ["number", "one"] f_many_times .fresh) (c_turned : ∀ base, Cal P w K mg base "turned" 1 ["one"] f_turned .fresh) (c_product : ∀ base, Cal P w K mg base "product" 1 ["one", "other"] f_product .fresh) (c_nought : ∀ base, Cal P w K mg base "nought" 1 ["high", "wide"] f_nought .fresh) :
    FnOk P w K mg base CX0 5 f fd ["_law_script"] (spLaw ⟨mg, K⟩ [(Pt, qn)] f_law) := by
  have sc := sc_law
  let N : List Str := N_law
  let st : Stmt := s_law
  refine fn_okT (k := 4) F hc sc [.flat] rfl (by decide) rfl fun A outer s0 H E hr => ?_
  have C : LawC (cxOf CX0 P w K mg base N_law "law" (defScope s_law) f (.ref c) A outer s0 H E).nox [(Pt, qn)] c Pt := ⟨TB, rfl, List.mem_singleton.mpr rfl, fun p hp _ => by rw [List.mem_singleton.mp hp]; rfl, fun _ => rfl⟩
  exact (ssz_cons (sc := ⟨[], .flat, [], []⟩) (W := fun _ _ _ _ => False) rfl (sx_asg 2 3 (ex_kids (ex_calls_fresh (c__law_sizes base) (hr.mono (by decide)) rfl (ea_cons (ex_calls_flat (c__law_cell_at base) (hr.mono (by decide)) rfl (ea_cons (ex_var (k := .flat) 0 rfl (by decide) rfl (by first | exact Or.inl rfl | exact Or.inr (Or.inl rfl) | exact Or.inr (Or.inr rfl))) (ea_cons (ex_int) (ea_nil)))) (ea_nil)))) (eg_lst rfl (egs_cons (eg_flat (eg_name sc.nd (i := 4) rfl (by first | exact Or.inl rfl | exact Or.inr rfl))) (egs_cons (eg_flat (eg_name sc.nd (i := 9) rfl (by first | exact Or.inl rfl | exact Or.inr rfl))) (egs_cons (eg_flat (eg_name sc.nd (i := 1) rfl (by first | exact Or.inl rfl | exact Or.inr rfl))) (egs_nil))))))
        (ssz_cons (sc := ⟨[], .flat, [], []⟩) (W := fun _ _ _ _ => False) rfl (sx_set (i := 6) 4 5 sc.nd rfl (by first | exact Or.inl rfl | exact Or.inr rfl) (ex_calls_fresh (c__law_table base) (hr.mono (by decide)) rfl (ea_cons (ex_calls_flat (c__law_cell_at base) (hr.mono (by decide)) rfl (ea_cons (ex_var (k := .flat) 0 rfl (by decide) rfl (by first | exact Or.inl rfl | exact Or.inr (Or.inl rfl) | exact Or.inr (Or.inr rfl))) (ea_cons (ex_int) (ea_nil)))) (ea_cons (ex_var (k := .flat) 4 rfl (by decide) rfl (by first | exact Or.inl rfl | exact Or.inr (Or.inl rfl) | exact Or.inr (Or.inr rfl))) (ea_cons (ex_var (k := .flat) 9 rfl (by decide) rfl (by first | exact Or.inl rfl | exact Or.inr (Or.inl rfl) | exact Or.inr (Or.inr rfl))) (ea_nil))))))
        (ssz_cons (sc := ⟨[], .flat, [], []⟩) (W := fun _ _ _ _ => False) rfl (sx_set (i := 7) 6 7 sc.nd rfl (by first | exact Or.inl rfl | exact Or.inr rfl) (ex_calls_fresh (c__law_table base) (hr.mono (by decide)) rfl (ea_cons (ex_calls_flat (c__law_cell_at base) (hr.mono (by decide)) rfl (ea_cons (ex_var (k := .flat) 0 rfl (by decide) rfl (by first | exact Or.inl rfl | exact Or.inr (Or.inl rfl) | exact Or.inr (Or.inr rfl))) (ea_cons (ex_int) (ea_nil)))) (ea_cons (ex_var (k := .flat) 4 rfl (by decide) rfl (by first | exact Or.inl rfl | exact Or.inr (Or.inl rfl) | exact Or.inr (Or.inr rfl))) (ea_cons (ex_var (k := .flat) 9 rfl (by decide) rfl (by first | exact Or.inl rfl | exact Or.inr (Or.inl rfl) | exact Or.inr (Or.inr rfl))) (ea_nil))))))
        (ssz_cons (sc := ⟨[], .flat, [], []⟩) (W := fun _ _ _ _ => False) rfl (sx_set (i := 8) 8 9 sc.nd rfl (by first | exact Or.inl rfl | exact Or.inr rfl) (ex_calls_fresh (c__law_table base) (hr.mono (by decide)) rfl (ea_cons (ex_calls_flat (c__law_cell_at base) (hr.mono (by decide)) rfl (ea_cons (ex_var (k := .flat) 0 rfl (by decide) rfl (by first | exact Or.inl rfl | exact Or.inr (Or.inl rfl) | exact Or.inr (Or.inr rfl))) (ea_cons (ex_int) (ea_nil)))) (ea_cons (ex_var (k := .flat) 9 rfl (by decide) rfl (by first | exact Or.inl rfl | exact Or.inr (Or.inl rfl) | exact Or.inr (Or.inr rfl))) (ea_cons (ex_var (k := .flat) 1 rfl (by decide) rfl (by first | exact Or.inl rfl | exact Or.inr (Or.inl rfl) | exact Or.inr (Or.inr rfl))) (ea_nil))))))
        (ssz_cons (sc := ⟨[], .flat, [], []⟩) (W := fun _ _ _ _ => False) rfl (sx_set (i := 5) 10 11 sc.nd rfl (by first | exact Or.inl rfl | exact Or.inr rfl) (ex_sub (ex_mod (ex_calls_flat (c__law_cell_at base) (hr.mono (by decide)) rfl (ea_cons (ex_var (k := .flat) 0 rfl (by decide) rfl (by first | exact Or.inl rfl | exact Or.inr (Or.inl rfl) | exact Or.inr (Or.inr rfl))) (ea_cons (ex_int) (ea_nil)))) (ex_powc (c := 1000000000000000000000000000000000000000000000000000000000000) (ex_pow (ex_int) (ex_int)) (by unfold CPow; decide) (by decide))) (ex_mulc (c := 500000000000000000000000000000000000000000000000000000000000) (ex_mul (ex_int) (ex_powc (c := 100000000000000000000000000000000000000000000000000000000000) (ex_pow (ex_int) (ex_int)) (by unfold CPow; decide) (by decide))) (by decide) (by decide))))
        (ssz_cons (sc := ⟨[], .flat, [], []⟩) (W := fun _ _ _ _ => False) rfl (sx_if (et_gt (ex_mod (ex_calls_flat (c__law_cell_at base) (hr.mono (by decide)) rfl (ea_cons (ex_var (k := .flat) 0 rfl (by decide) rfl (by first | exact Or.inl rfl | exact Or.inr (Or.inl rfl) | exact Or.inr (Or.inr rfl))) (ea_cons (ex_int) (ea_nil)))) (ex_int)) (ex_int))
        (ss_one (sx_set (i := 5) 12 13 sc.nd rfl (by first | exact Or.inl rfl | exact Or.inr rfl) (ex_sub (ex_mod (ex_calls_flat (c__law_cell_at base) (hr.mono (by decide)) rfl (ea_cons (ex_var (k := .flat) 0 rfl (by decide) rfl (by first | exact Or.inl rfl | exact Or.inr (Or.inl rfl) | exact Or.inr (Or.inr rfl))) (ea_cons (ex_int) (ea_nil)))) (ex_int)) (ex_int))))
        (ss_nil))
        (ssz_ssl (ssl_set (i := 2) 14 15 sc.nd rfl (by first | exact Or.inl rfl | exact Or.inr rfl) (exl_last (kl := 2) (semL := l_1) (pk := lp_1) (Rl := .flat) (R := .fresh) (fvs := ["_law_one", "_law_other"]) (lps := ["_law_i", "_law_j"]) (js := [6, 7]) (semG := g_1) C (lamP_of (by kernel_rfl) rfl (fun _ _ _ _ _ us hl => match us, hl with | [_, _], _ => rfl)) (⟨.flat, rfl, fun bb x cl A outer s H E hm hr => ex_add (ex_flat (ex_idx (ex_idx (ex_idx (ex_var (k := .lab none [0] false) 0 rfl (by decide) rfl (by first | exact Or.inl rfl | exact Or.inr (Or.inl rfl) | exact Or.inr (Or.inr rfl))) (ex_int)) (ex_var (k := .flat) 2 rfl (by decide) rfl (by first | exact Or.inl rfl | exact Or.inr (Or.inl rfl) | exact Or.inr (Or.inr rfl)))) (ex_var (k := .flat) 3 rfl (by decide) rfl (by first | exact Or.inl rfl | exact Or.inr (Or.inl rfl) | exact Or.inr (Or.inr rfl))))) (ex_flat (ex_idx (ex_idx (ex_idx (ex_var (k := .lab none [0] false) 1 rfl (by decide) rfl (by first | exact Or.inl rfl | exact Or.inr (Or.inl rfl) | exact Or.inr (Or.inr rfl))) (ex_int)) (ex_var (k := .flat) 2 rfl (by decide) rfl (by first | exact Or.inl rfl | exact Or.inr (Or.inl rfl) | exact Or.inr (Or.inr rfl)))) (ex_var (k := .flat) 3 rfl (by decide) rfl (by first | exact Or.inl rfl | exact Or.inr (Or.inl rfl) | exact Or.inr (Or.inr rfl)))))⟩) (fun bb x fdl hm hf hb FL => ok__law_due (base := bb) F__law_due  b_range hf hb FL) (hr.mono (by decide)) rfl g__law_due F__law_due.kp (bn__law_due F__law_due) rfl rfl (.inr rfl) (ex_var (k := .flat) 4 rfl (by decide) rfl (by first | exact Or.inl rfl | exact Or.inr (Or.inl rfl) | exact Or.inr (Or.inr rfl))) (ex_var (k := .flat) 9 rfl (by decide) rfl (by first | exact Or.inl rfl | exact Or.inr (Or.inl rfl) | exact Or.inr (Or.inr rfl))))
        (ssl_ifnot (exl_first (kl := 2) (semL := l_2) (pk := lp_2) (Rl := .fresh) (R := .flat) (fvs := ["_law_one", "_law_other"]) (lps := []) (js := [6, 7]) (semG := g_2) C (lamP_of (by kernel_rfl) rfl (fun _ _ _ _ _ us hl => match us, hl with | [], _ => rfl)) (⟨(.al true .new [] true), rfl, fun bb x cl A outer s H E hm hr => ex_calls_fresh (c_plus bb) (hr.mono (by decide)) rfl (ea_cons (ex_var (k := .lab none [0] false) 0 rfl (by decide) rfl (by first | exact Or.inl rfl | exact Or.inr (Or.inl rfl) | exact Or.inr (Or.inr rfl))) (ea_cons (ex_var (k := .lab none [0] false) 1 rfl (by decide) rfl (by first | exact Or.inl rfl | exact Or.inr (Or.inl rfl) | exact Or.inr (Or.inr rfl))) (ea_nil)))⟩) (fun bb x fdl hm hf hb FL => ok__law_told (base := bb) F__law_told  b_range (c__law_copy bb) (c__law_same bb) (c__law_apart bb) hf hb FL) (hr.mono (by decide)) rfl g__law_told F__law_told.kp (bn__law_told F__law_told) rfl rfl (.inl rfl) (exl_ex (ex_var (k := .lab (some 14) [15] true) 2 rfl (by decide) rfl (by first | exact Or.inl rfl | exact Or.inr (Or.inl rfl) | exact Or.inr (Or.inr rfl)))) (ex_lst (ea_cons (ex_var (k := .lab (some 4) [5] true) 6 rfl (by decide) rfl (by first | exact Or.inl rfl | exact Or.inr (Or.inl rfl) | exact Or.inr (Or.inr rfl))) (ea_cons (ex_var (k := .lab (some 6) [7] true) 7 rfl (by decide) rfl (by first | exact Or.inl rfl | exact Or.inr (Or.inl rfl) | exact Or.inr (Or.inr rfl))) (ea_nil)))))
        (ssl_set (i := 2) 16 17 sc.nd rfl (by first | exact Or.inl rfl | exact Or.inr rfl) (exl_last (kl := 2) (semL := l_3) (pk := lp_3) (Rl := .flat) (R := .fresh) (fvs := ["_law_number", "_law_one"]) (lps := ["_law_i", "_law_j"]) (js := [5, 6]) (semG := g_3) C (lamP_of (by kernel_rfl) rfl (fun _ _ _ _ _ us hl => match us, hl with | [_, _], _ => rfl)) (⟨.flat, rfl, fun bb x cl A outer s H E hm hr => ex_mul (ex_var (k := .flat) 0 rfl (by decide) rfl (by first | exact Or.inl rfl | exact Or.inr (Or.inl rfl) | exact Or.inr (Or.inr rfl))) (ex_flat (ex_idx (ex_idx (ex_idx (ex_var (k := .lab none [0] false) 1 rfl (by decide) rfl (by first | exact Or.inl rfl | exact Or.inr (Or.inl rfl) | exact Or.inr (Or.inr rfl))) (ex_int)) (ex_var (k := .flat) 2 rfl (by decide) rfl (by first | exact Or.inl rfl | exact Or.inr (Or.inl rfl) | exact Or.inr (Or.inr rfl)))) (ex_var (k := .flat) 3 rfl (by decide) rfl (by first | exact Or.inl rfl | exact Or.inr (Or.inl rfl) | exact Or.inr (Or.inr rfl)))))⟩) (fun bb x fdl hm hf hb FL => ok__law_due (base := bb) F__law_due  b_range hf hb FL) (hr.mono (by decide)) rfl g__law_due F__law_due.kp (bn__law_due F__law_due) rfl rfl (.inr rfl) (ex_var (k := .flat) 4 rfl (by decide) rfl (by first | exact Or.inl rfl | exact Or.inr (Or.inl rfl) | exact Or.inr (Or.inr rfl))) (ex_var (k := .flat) 9 rfl (by decide) rfl (by first | exact Or.inl rfl | exact Or.inr (Or.inl rfl) | exact Or.inr (Or.inr rfl))))
        (ssl_ifnot (exl_first (kl := 2) (semL := l_4) (pk := lp_4) (Rl := .fresh) (R := .flat) (fvs := ["_law_number", "_law_one"]) (lps := []) (js := [5, 6]) (semG := g_4) C (lamP_of (by kernel_rfl) rfl (fun _ _ _ _ _ us hl => match us, hl with | [], _ => rfl)) (⟨(.al true .new [] true), rfl, fun bb x cl A outer s H E hm hr => ex_calls_fresh (c_many_times bb) (hr.mono (by decide)) rfl (ea_cons (ex_var (k := .flat) 0 rfl (by decide) rfl (by first | exact Or.inl rfl | exact Or.inr (Or.inl rfl) | exact Or.inr (Or.inr rfl))) (ea_cons (ex_var (k := .lab none [0] false) 1 rfl (by decide) rfl (by first | exact Or.inl rfl | exact Or.inr (Or.inl rfl) | exact Or.inr (Or.inr rfl))) (ea_nil)))⟩) (fun bb x fdl hm hf hb FL => ok__law_told (base := bb) F__law_told  b_range (c__law_copy bb) (c__law_same bb) (c__law_apart bb) hf hb FL) (hr.mono (by decide)) rfl g__law_told F__law_told.kp (bn__law_told F__law_told) rfl rfl (.inl rfl) (exl_ex (ex_var (k := .lab (some 16) [17] true) 2 rfl (by decide) rfl (by first | exact Or.inl rfl | exact Or.inr (Or.inl rfl) | exact Or.inr (Or.inr rfl)))) (ex_lst (ea_cons (ex_var (k := .lab (some 4) [5] true) 6 rfl (by decide) rfl (by first | exact Or.inl rfl | exact Or.inr (Or.inl rfl) | exact Or.inr (Or.inr rfl))) (ea_nil))))
        (ssl_set (i := 2) 18 19 sc.nd rfl (by first | exact Or.inl rfl | exact Or.inr rfl) (exl_last (kl := 2) (semL := l_5) (pk := lp_5) (Rl := .flat) (R := .fresh) (fvs := ["_law_one"]) (lps := ["_law_i", "_law_j"]) (js := [6]) (semG := g_5) C (lamP_of (by kernel_rfl) rfl (fun _ _ _ _ _ us hl => match us, hl with | [_, _], _ => rfl)) (⟨.flat, rfl, fun bb x cl A outer s H E hm hr => ex_flat (ex_idx (ex_idx (ex_idx (ex_var (k := .lab none [0] false) 0 rfl (by decide) rfl (by first | exact Or.inl rfl | exact Or.inr (Or.inl rfl) | exact Or.inr (Or.inr rfl))) (ex_int)) (ex_var (k := .flat) 2 rfl (by decide) rfl (by first | exact Or.inl rfl | exact Or.inr (Or.inl rfl) | exact Or.inr (Or.inr rfl)))) (ex_var (k := .flat) 1 rfl (by decide) rfl (by first | exact Or.inl rfl | exact Or.inr (Or.inl rfl) | exact Or.inr (Or.inr rfl))))⟩) (fun bb x fdl hm hf hb FL => ok__law_due (base := bb) F__law_due  b_range hf hb FL) (hr.mono (by decide)) rfl g__law_due F__law_due.kp (bn__law_due F__law_due) rfl rfl (.inr rfl) (ex_var (k := .flat) 9 rfl (by decide) rfl (by first | exact Or.inl rfl | exact Or.inr (Or.inl rfl) | exact Or.inr (Or.inr rfl))) (ex_var (k := .flat) 4 rfl (by decide) rfl (by first | exact Or.inl rfl | exact Or.inr (Or.inl rfl) | exact Or.inr (Or.inr rfl))))
        (ssl_ifnot (exl_first (kl := 2) (semL := l_6) (pk := lp_6) (Rl := .fresh) (R := .flat) (fvs := ["_law_one"]) (lps := []) (js := [6]) (semG := g_6) C (lamP_of (by kernel_rfl) rfl (fun _ _ _ _ _ us hl => match us, hl with | [], _ => rfl)) (⟨(.al true .new [] true), rfl, fun bb x cl A outer s H E hm hr => ex_calls_fresh (c_turned bb) (hr.mono (by decide)) rfl (ea_cons (ex_var (k := .lab none [0] false) 0 rfl (by decide) rfl (by first | exact Or.inl rfl | exact Or.inr (Or.inl rfl) | exact Or.inr (Or.inr rfl))) (ea_nil))⟩) (fun bb x fdl hm hf hb FL => ok__law_told (base := bb) F__law_told  b_range (c__law_copy bb) (c__law_same bb) (c__law_apart bb) hf hb FL) (hr.mono (by decide)) rfl g__law_told F__law_told.kp (bn__law_told F__law_told) rfl rfl (.inl rfl) (exl_ex (ex_var (k := .lab (some 18) [19] true) 2 rfl (by decide) rfl (by first | exact Or.inl rfl | exact Or.inr (Or.inl rfl) | exact Or.inr (Or.inr rfl)))) (ex_lst (ea_cons (ex_var (k := .lab (some 4) [5] true) 6 rfl (by decide) rfl (by first | exact Or.inl rfl | exact Or.inr (Or.inl rfl) | exact Or.inr (Or.inr rfl))) (ea_nil))))
        (ssl_set (i := 2) 20 21 sc.nd rfl (by first | exact Or.inl rfl | exact Or.inr rfl) (exl_last (kl := 2) (semL := l_7) (pk := lp_7) (Rl := .flat) (R := .fresh) (fvs := ["_law_one"]) (lps := ["_law_i", "_law_j"]) (js := [6]) (semG := g_7) C (lamP_of (by kernel_rfl) rfl (fun _ _ _ _ _ us hl => match us, hl with | [_, _], _ => rfl)) (⟨.flat, rfl, fun bb x cl A outer s H E hm hr => ex_mul (ex_int) (ex_flat (ex_idx (ex_idx (ex_idx (ex_var (k := .lab none [0] false) 0 rfl (by decide) rfl (by first | exact Or.inl rfl | exact Or.inr (Or.inl rfl) | exact Or.inr (Or.inr rfl))) (ex_int)) (ex_var (k := .flat) 1 rfl (by decide) rfl (by first | exact Or.inl rfl | exact Or.inr (Or.inl rfl) | exact Or.inr (Or.inr rfl)))) (ex_var (k := .flat) 2 rfl (by decide) rfl (by first | exact Or.inl rfl | exact Or.inr (Or.inl rfl) | exact Or.inr (Or.inr rfl)))))⟩) (fun bb x fdl hm hf hb FL => ok__law_due (base := bb) F__law_due  b_range hf hb FL) (hr.mono (by decide)) rfl g__law_due F__law_due.kp (bn__law_due F__law_due) rfl rfl (.inr rfl) (ex_var (k := .flat) 4 rfl (by decide) rfl (by first | exact Or.inl rfl | exact Or.inr (Or.inl rfl) | exact Or.inr (Or.inr rfl))) (ex_var (k := .flat) 9 rfl (by decide) rfl (by first | exact Or.inl rfl | exact Or.inr (Or.inl rfl) | exact Or.inr (Or.inr rfl))))
        (ssl_ifnot (exl_first (kl := 2) (semL := l_8) (pk := lp_8) (Rl := .fresh) (R := .flat) (fvs := ["_law_one"]) (lps := []) (js := [6]) (semG := g_8) C (lamP_of (by kernel_rfl) rfl (fun _ _ _ _ _ us hl => match us, hl with | [], _ => rfl)) (⟨(.al true .new [] true), rfl, fun bb x cl A outer s H E hm hr => ex_calls_fresh (c_plus bb) (hr.mono (by decide)) rfl (ea_cons (ex_var (k := .lab none [0] false) 0 rfl (by decide) rfl (by first | exact Or.inl rfl | exact Or.inr (Or.inl rfl) | exact Or.inr (Or.inr rfl))) (ea_cons (ex_var (k := .lab none [0] false) 0 rfl (by decide) rfl (by first | exact Or.inl rfl | exact Or.inr (Or.inl rfl) | exact Or.inr (Or.inr rfl))) (ea_nil)))⟩) (fun bb x fdl hm hf hb FL => ok__law_told (base := bb) F__law_told  b_range (c__law_copy bb) (c__law_same bb) (c__law_apart bb) hf hb FL) (hr.mono (by decide)) rfl g__law_told F__law_told.kp (bn__law_told F__law_told) rfl rfl (.inl rfl) (exl_ex (ex_var (k := .lab (some 20) [21] true) 2 rfl (by decide) rfl (by first | exact Or.inl rfl | exact Or.inr (Or.inl rfl) | exact Or.inr (Or.inr rfl)))) (ex_lst (ea_cons (ex_var (k := .lab (some 4) [5] true) 6 rfl (by decide) rfl (by first | exact Or.inl rfl | exact Or.inr (Or.inl rfl) | exact Or.inr (Or.inr rfl))) (ea_nil))))
        (ssl_ifnot (exl_first (kl := 2) (semL := l_9) (pk := lp_9) (Rl := .fresh) (R := .flat) (fvs := ["_law_one", "_law_third"]) (lps := []) (js := [6, 8]) (semG := g_9) C (lamP_of (by kernel_rfl) rfl (fun _ _ _ _ _ us hl => match us, hl with | [], _ => rfl)) (⟨(.al true .new [] true), rfl, fun bb x cl A outer s H E hm hr => ex_calls_fresh (c_product bb) (hr.mono (by decide)) rfl (ea_cons (ex_var (k := .lab none [0] false) 0 rfl (by decide) rfl (by first | exact Or.inl rfl | exact Or.inr (Or.inl rfl) | exact Or.inr (Or.inr rfl))) (ea_cons (ex_var (k := .lab none [0] false) 1 rfl (by decide) rfl (by first | exact Or.inl rfl | exact Or.inr (Or.inl rfl) | exact Or.inr (Or.inr rfl))) (ea_nil)))⟩) (fun bb x fdl hm hf hb FL => ok__law_told (base := bb) F__law_told  b_range (c__law_copy bb) (c__law_same bb) (c__law_apart bb) hf hb FL) (hr.mono (by decide)) rfl g__law_told F__law_told.kp (bn__law_told F__law_told) rfl rfl (.inl rfl) (exl_ex (ex_calls_fresh (c__law_times base) (hr.mono (by decide)) rfl (ea_cons (ex_var (k := .lab (some 4) [5] true) 6 rfl (by decide) rfl (by first | exact Or.inl rfl | exact Or.inr (Or.inl rfl) | exact Or.inr (Or.inr rfl))) (ea_cons (ex_var (k := .lab (some 8) [9] true) 8 rfl (by decide) rfl (by first | exact Or.inl rfl | exact Or.inr (Or.inl rfl) | exact Or.inr (Or.inr rfl))) (ea_nil))))) (ex_lst (ea_cons (ex_var (k := .lab (some 4) [5] true) 6 rfl (by decide) rfl (by first | exact Or.inl rfl | exact Or.inr (Or.inl rfl) | exact Or.inr (Or.inr rfl))) (ea_cons (ex_var (k := .lab (some 8) [9] true) 8 rfl (by decide) rfl (by first | exact Or.inl rfl | exact Or.inr (Or.inl rfl) | exact Or.inr (Or.inr rfl))) (ea_nil)))))
        (ssl_ifnot (exl_first (kl := 2) (semL := l_10) (pk := lp_10) (Rl := .fresh) (R := .flat) (fvs := ["_law_high", "_law_wide"]) (lps := []) (js := [4, 9]) (semG := g_10) C (lamP_of (by kernel_rfl) rfl (fun _ _ _ _ _ us hl => match us, hl with | [], _ => rfl)) (⟨(.al true .new [] true), rfl, fun bb x cl A outer s H E hm hr => ex_calls_fresh (c_nought bb) (hr.mono (by decide)) rfl (ea_cons (ex_var (k := .flat) 0 rfl (by decide) rfl (by first | exact Or.inl rfl | exact Or.inr (Or.inl rfl) | exact Or.inr (Or.inr rfl))) (ea_cons (ex_var (k := .flat) 1 rfl (by decide) rfl (by first | exact Or.inl rfl | exact Or.inr (Or.inl rfl) | exact Or.inr (Or.inr rfl))) (ea_nil)))⟩) (fun bb x fdl hm hf hb FL => ok__law_told (base := bb) F__law_told  b_range (c__law_copy bb) (c__law_same bb) (c__law_apart bb) hf hb FL) (hr.mono (by decide)) rfl g__law_told F__law_told.kp (bn__law_told F__law_told) rfl rfl (.inl rfl) (exl_last (kl := 2) (semL := l_11) (pk := lp_11) (Rl := .flat) (R := .fresh) (fvs := []) (lps := ["_law_i", "_law_j"]) (js := []) (semG := g_11) C (lamP_of (by kernel_rfl) rfl (fun _ _ _ _ _ us hl => match us, hl with | [_, _], _ => rfl)) (⟨.flat, rfl, fun bb x cl A outer s H E hm hr => ex_int⟩) (fun bb x fdl hm hf hb FL => ok__law_due (base := bb) F__law_due  b_range hf hb FL) (hr.mono (by decide)) rfl g__law_due F__law_due.kp (bn__law_due F__law_due) rfl rfl (.inr rfl) (ex_var (k := .flat) 4 rfl (by decide) rfl (by first | exact Or.inl rfl | exact Or.inr (Or.inl rfl) | exact Or.inr (Or.inr rfl))) (ex_var (k := .flat) 9 rfl (by decide) rfl (by first | exact Or.inl rfl | exact Or.inr (Or.inl rfl) | exact Or.inr (Or.inr rfl)))) (ex_lst (ea_nil)))
        (ssl_set (i := 3) 22 23 sc.nd rfl (by first | exact Or.inl rfl | exact Or.inr rfl) (exl_ex (ex_mod (ex_var (k := .flat) 1 rfl (by decide) rfl (by first | exact Or.inl rfl | exact Or.inr (Or.inl rfl) | exact Or.inr (Or.inr rfl))) (ex_int)))
        (ssl_ret (exl_first (kl := 2) (semL := l_12) (pk := lp_12) (Rl := .fresh) (R := .flat) (fvs := ["_law_few"]) (lps := []) (js := [3]) (semG := g_12) C (lamP_of (by kernel_rfl) rfl (fun _ _ _ _ _ us hl => match us, hl with | [], _ => rfl)) (⟨(.al true .new [] true), rfl, fun bb x cl A outer s H E hm hr => ex_calls_fresh (c_unit bb) (hr.mono (by decide)) rfl (ea_cons (ex_var (k := .flat) 0 rfl (by decide) rfl (by first | exact Or.inl rfl | exact Or.inr (Or.inl rfl) | exact Or.inr (Or.inr rfl))) (ea_nil))⟩) (fun bb x fdl hm hf hb FL => ok__law_told (base := bb) F__law_told  b_range (c__law_copy bb) (c__law_same bb) (c__law_apart bb) hf hb FL) (hr.mono (by decide)) rfl g__law_told F__law_told.kp (bn__law_told F__law_told) rfl rfl (.inl rfl) (exl_last (kl := 2) (semL := l_13) (pk := lp_13) (Rl := .flat) (R := .fresh) (fvs := []) (lps := ["_law_i", "_law_j"]) (js := []) (semG := g_13) C (lamP_of (by kernel_rfl) rfl (fun _ _ _ _ _ us hl => match us, hl with | [_, _], _ => rfl)) (⟨.flat, rfl, fun bb x cl A outer s H E hm hr => ex_callTy call_int1 cp_int1 rfl b_int (by decide +kernel) (ea_cons (ex_eq hr.units (ex_var (k := .flat) 0 rfl (by decide) rfl (by first | exact Or.inl rfl | exact Or.inr (Or.inl rfl) | exact Or.inr (Or.inr rfl))) (ex_var (k := .flat) 1 rfl (by decide) rfl (by first | exact Or.inl rfl | exact Or.inr (Or.inl rfl) | exact Or.inr (Or.inr rfl)))) (ea_nil))⟩) (fun bb x fdl hm hf hb FL => ok__law_due (base := bb) F__law_due  b_range hf hb FL) (hr.mono (by decide)) rfl g__law_due F__law_due.kp (bn__law_due F__law_due) rfl rfl (.inr rfl) (ex_var (k := .flat) 3 rfl (by decide) rfl (by first | exact Or.inl rfl | exact Or.inr (Or.inl rfl) | exact Or.inr (Or.inr rfl))) (ex_var (k := .flat) 3 rfl (by decide) rfl (by first | exact Or.inl rfl | exact Or.inr (Or.inl rfl) | exact Or.inr (Or.inr rfl)))) (ex_lst (ea_nil))))))))))))))))))))))
end
end K02

/-! ## K02p -/
namespace K02
open PySem PySem.Spec PyProof.Rows L2 VV VP
theorem at_row {h i : Nat} (r : Nat → D) (hi : i < h) : dIdx [.lst ((List.range h).map r), .int (i : Nat)] = some (r i) := by
  rw [dIdx_l, atI_n, List.getElem?_map, List.getElem?_range hi]; rfl
theorem at_col {w j : Nat} (r : Nat → Int) (hj : j < w) : dIdx [rowD w r, .int (j : Nat)] = some (.int (r j)) := by
  unfold rowD
  rw [dIdx_l, atI_n, List.getElem?_map, List.getElem?_range hj]; rfl
theorem due_ok (x : LamId) (pk : List Kd) (semL : Ev) (dsc : List D) (h w : Nat) (F : Nat → Nat → Int) (hh : h ≤ 1000) (hw : w ≤ 1000)
    (hp : ∀ i j : Nat, i < h → j < w → pkOk pk (dsc ++ [.int i, .int j]) = true ∧ semL (dsc ++ [.int i, .int j]) = some (.int (F i j))) :
    f__law_due x pk semL [.int h, .int w, .clo x dsc] = some (.ret (encT h w F)) := by
  unfold f__law_due
  rw [fn_s (by simp [pkOk, D.isFlat])]
  have e0 : [D.int h, .int w, .clo x dsc] ++ List.replicate (5 - [D.int h, .int w, .clo x dsc].length) .non = [.int h, .int w, .clo x dsc, .non, .non] := rfl
  rw [e0]
  have e := lcR (n := h) (i := 3) (ρ := [.int h, .int w, .clo x dsc, .non, .non]) (e := m__law_due_e1 x pk semL) (fun i => rowD w (F i)) fun a ha => by
    have e := lcR (n := w) (i := 4) (ρ := [.int h, .int w, .clo x dsc, .int a, .non]) (e := m__law_due_e2 x pk semL) (fun j => .int (F a j)) fun b hb => by
      obtain ⟨p1, p2⟩ := hp a b ha hb
      unfold m__law_due_e2 eClo
      simp [p1, p2]
    unfold m__law_due_e1
    simp only [eLc_s, List.set_cons_succ, List.set_cons_zero]
    rw [iR (n := w) rfl (by omega), ob_some, e]
    rfl
  unfold m__law_due
  simp only [sRet_s, eTup_s, aCons_s, eVar_s, eLc_s, aNil_s, List.getElem?_cons_zero, List.getElem?_cons_succ, ob_some]
  rw [iR (n := h) rfl (by omega), ob_some, e]
  simp [encT]
theorem flat_row {w : Nat} {r : Nat → Int} : D.isFlatL ((List.range w).map fun j => D.int (r j)) = true := by
  have : ((List.range w).map fun j => D.int (r j)) = ((List.range w).map r).map D.int := by rw [List.map_map]; rfl
  rw [this]
  exact flat_ints _
theorem copy_ok (h w : Nat) (f : Nat → Nat → Int) : f__law_copy [encT h w f] = some (.ret (encT h w f)) := by
  unfold f__law_copy
  rw [fn_s (by simp [pkOk])]
  have e0 : [encT h w f] ++ List.replicate (2 - [encT h w f].length) .non = [encT h w f, .non] := rfl
  rw [e0]
  have e := lcL_map (t := gN 1) (c := cYes) (ρ := [encT h w f, .non]) (e := m__law_copy_e1) (fun i : Nat => rowD w (f i)) (fun i => rowD w (f i)) (List.range h) fun a ha => by
    refine ⟨_, gN_s, cYes_s, ?_⟩
    have hk : D.kidsFlat (rowD w (f a)) = true := by unfold rowD; simp [D.kidsFlat, flat_row]
    have hl : dList [rowD w (f a)] = some (rowD w (f a)) := rfl
    unfold m__law_copy_e1
    simp only [eChk_s, eP_s, aCons_s, aNil_s, eVar_s, List.set_cons_succ, List.set_cons_zero, List.getElem?_cons_succ, List.getElem?_cons_zero, ob_some, hl, Option.filter_some, hk, if_true]
  unfold m__law_copy
  simp only [sRet_s, eTup_s, aCons_s, aNil_s, eP_s, eChk_s, eC_s, eLc_s, iLst_s, eVar_s, List.getElem?_cons_succ, List.getElem?_cons_zero, ob_some, enc0, enc1, enc2, Option.filter_some, fl_int, if_true, asL_l]
  rw [e]
  simp [encT]
theorem whole_ok (i : Int) : f__law_whole [.int i] = some (.ret (.bl true)) := by kernel_rfl
theorem all_true (w : Nat) : dAll [.lst ((List.range w).map fun _ => D.bl true)] = some (.bl true) := by
  have key : ∀ l : List Nat, boolsOf (l.map fun _ => D.bl true) = some (l.map fun _ => true) := fun l => by
    induction l with
    | nil => rfl
    | cons a r ih => simp only [List.map_cons, boolsOf, ih]; rfl
  unfold dAll
  simp [itemsOf, key]
theorem same_ok (h w : Nat) (f g : Nat → Nat → Int) (hh : h ≤ 1000) (hw : w ≤ 1000) (e : ∀ i j, i < h → j < w → f i j = g i j) : f__law_same [encT h w f, encT h w g] = some (.ret (.bl true)) := by
  unfold f__law_same
  refine fn_go (by simp [pkOk]) ?_
  show Go m__law_same [encT h w f, encT h w g, .non, .non] _
  have hne := ne_enc e
  obtain ⟨B, hB⟩ : ∃ B, B = encT h w g := ⟨_, rfl⟩
  obtain ⟨A, hA⟩ : ∃ A, A = encT h w f := ⟨_, rfl⟩
  rw [← hA, ← hB] at hne ⊢
  have A0 : dIdx [A, .int 0] = some (.int h) := by rw [hA]; exact enc0
  have A1 : dIdx [A, .int 1] = some (.int w) := by rw [hA]; exact enc1
  have A2 : dIdx [A, .int 2] = some (.lst ((List.range h).map fun i => rowD w (f i))) := by rw [hA]; exact enc2
  have A3 : dIsi "tuple" [A] = some (.bl true) := by rw [hA]; kernel_rfl
  have A4 : dLen [A] = some (.int 3) := by rw [hA]; rfl
  have A5 : ∀ l, dIsi "list" [.lst l] = some (.bl true) := fun l => by kernel_rfl
  unfold m__law_same
  refine Go.no (by simp [wOr, wNot, tOf, A3, A4, A2, A5, hne]) ?_
  unfold m__law_same_1
  refine Go.no (by simp [wOr, wNot, tOf, A0, A1, whole_ok, Option.filter_some]) ?_
  unfold m__law_same_2
  rw [go_seq]
  refine go_for (fun i : Nat => rowD w (f i)) (List.range h) (fun i ρ => ∃ x y, ρ = [A, B, x, y]) (by simp [A2]) ⟨_, _, rfl⟩ (fun i a ρ hi hR => ?_) fun ρ hR => ?_
  · obtain ⟨hi', rfl⟩ := rng_at hi
    obtain ⟨x, y, rfl⟩ := hR
    have e := lcL_map (t := gF (gN 3)) (c := cYes) (ρ := [A, B, rowD w (f a), y]) (e := m__law_same_e1) (fun j : Nat => D.int (f a j)) (fun _ => .bl true) (List.range w) fun b hb =>
      ⟨[A, B, rowD w (f a), .int (f a b)], by simp, cYes_s, by unfold m__law_same_e1; simp [whole_ok]⟩
    have ra : asL (rowD w (f a)) = some ((List.range w).map fun j => .int (f a j)) := rfl
    have hl : eLc (iLst (eVar 2)) (gF (gN 3)) cYes m__law_same_e1 [A, B, rowD w (f a), y] = some (.lst ((List.range w).map fun _ => .bl true)) := by
      simp only [eLc_s, iLst_s, eVar_s, List.getElem?_cons_succ, List.getElem?_cons_zero, ob_some, ra]
      rw [e]
      rfl
    have h5 : dIsi "list" [rowD w (f a)] = some (.bl true) := by kernel_rfl
    refine ⟨[A, B, rowD w (f a), y], by simp, ?_⟩
    unfold m__law_same_b1
    rw [go_f (by simp [wOr, wNot, tOf, h5, ra, e, all_true, -List.map_const']), go_nil]
    exact ⟨_, .inl rfl, _, _, rfl⟩
  · obtain ⟨x, y, rfl⟩ := hR
    show Go _ _ _
    rw [go_ret]
    exact ⟨_, rfl, rfl⟩
theorem ints_S (w : Nat) (u : Nat → Int) : dSum [.lst ((List.range w).map fun k => D.int (u k))] = some (.int (S w u)) := by
  have key : ∀ l : List Nat, intsOf (l.map fun k => D.int (u k)) = some (l.map u) := fun l => by
    induction l with
    | nil => rfl
    | cons a r ih => simp only [List.map_cons, intsOf, ih]; rfl
  have sm : ∀ w : Nat, ((List.range w).map u).sum = S w u := fun w => by
    induction w with
    | zero => rfl
    | succ w ih => rw [List.range_succ, List.map_append, List.sum_append, ih]; simp [S]
  unfold dSum
  simp [itemsOf, key, sm]
theorem times_ok (h w d : Nat) (f g : Nat → Nat → Int) {n m : Nat} (hf : ∀ i j, i < h → j < w → Bn n (f i j)) (hg : ∀ i j, i < w → j < d → Bn m (g i j)) (hs : n + m ≤ 100000) (hh : h ≤ 1000) (hw : w ≤ 1000) (hd : d ≤ 1000) :
    f__law_times [encT h w f, encT w d g] = some (.ret (encT h d (mulE f g w))) := by
  unfold f__law_times
  refine fn_go (by simp [pkOk]) ?_
  show Go m__law_times [encT h w f, encT w d g, .non, .non, .non, .non] _
  obtain ⟨A, hA⟩ : ∃ A, A = encT h w f := ⟨_, rfl⟩
  obtain ⟨B, hB⟩ : ∃ B, B = encT w d g := ⟨_, rfl⟩
  have A0 : dIdx [A, .int 0] = some (.int h) := by rw [hA]; exact enc0
  have A1 : dIdx [A, .int 1] = some (.int w) := by rw [hA]; exact enc1
  have A2 : dIdx [A, .int 2] = some (.lst ((List.range h).map fun i => rowD w (f i))) := by rw [hA]; exact enc2
  have B1 : dIdx [B, .int 1] = some (.int d) := by rw [hB]; exact enc1
  have B2 : dIdx [B, .int 2] = some (.lst ((List.range w).map fun i => rowD d (g i))) := by rw [hB]; exact enc2
  rw [← hA, ← hB]
  unfold m__law_times
  refine Go.set (d := .lst []) rfl ?_
  unfold m__law_times_1
  rw [go_seq]
  refine go_for (fun i : Nat => D.int i) (List.range h) (fun i ρ => ∃ x y z, ρ = [A, B, .lst ((List.range i).map fun i => rowD d (mulE f g w i)), x, y, z]) ?_ ⟨_, _, _, rfl⟩ (fun i a ρ hi hR => ?_) fun ρ hR => ?_
  · exact iR (n := h) (by simp [A0, Option.filter_some]) (by omega)
  · obtain ⟨hi', rfl⟩ := rng_at hi
    obtain ⟨x, y, z, rfl⟩ := hR
    refine ⟨[A, B, .lst ((List.range a).map fun i => rowD d (mulE f g w i)), .int a, y, z], by simp, ?_⟩
    obtain ⟨L, hL⟩ : ∃ L, L = (List.range a).map fun i => rowD d (mulE f g w i) := ⟨_, rfl⟩
    rw [← hL]
    have e := lcR (n := d) (i := 4) (ρ := [A, B, .lst L, .int a, y, z]) (e := m__law_times_e1) (fun j => .int (mulE f g w a j)) fun b hb => by
      have e := lcR (n := w) (i := 5) (ρ := [A, B, .lst L, .int a, .int b, z]) (e := m__law_times_e2) (fun k => .int (f a k * g k b)) fun k hk => by
        have h1 := at_row (h := h) (fun i => rowD w (f i)) hi'
        have h2 := at_col (f a) hk
        have h3 := at_row (h := w) (fun i => rowD d (g i)) hk
        have h4 := at_col (g k) hb
        have h5 : dMul [.int (f a k), .int (g k b)] = some (.int (f a k * g k b)) := dMul_s ((hf a k hi' hk).cmul (hg k b hk hb) (by omega))
        unfold m__law_times_e2
        simp only [eP_s, aCons_s, aNil_s, eChk_s, eVar_s, eC_s, List.set_cons_succ, List.set_cons_zero, List.getElem?_cons_succ, List.getElem?_cons_zero, ob_some, A2, B2, h1, h2, h3, h4, Option.filter_some, fl_int, if_true, h5]
      unfold m__law_times_e1
      simp only [eP_s, aCons_s, aNil_s, eLc_s, List.set_cons_succ, List.set_cons_zero]
      rw [iR (n := w) (by simp [A1, Option.filter_some]) (by omega), ob_some, e, ob_some, ob_some, ob_some, ob_some]
      exact ints_S w _
    unfold m__law_times_b1
    refine Go.mut1 (y := rowD d (mulE f g w a)) (x := .lst L) (z := .lst (L ++ [rowD d (mulE f g w a)])) ?_ rfl (dPush_s (by rw [hL]; simp; omega)) ⟨_, .inl rfl, .int a, y, z, ?_⟩
    · simp only [eLc_s]
      rw [iR (n := d) (by simp [B1, Option.filter_some]) (by omega), ob_some, e]
      rfl
    · rw [List.range_succ, List.map_append, ← hL]
      rfl
  · obtain ⟨x, y, z, rfl⟩ := hR
    show Go _ _ _
    unfold m__law_times_2
    rw [go_ret]
    refine ⟨encT h d (mulE f g w), ?_, rfl⟩
    simp only [eTup_s, aCons_s, aNil_s, eP_s, eChk_s, eC_s, eVar_s, List.getElem?_cons_succ, List.getElem?_cons_zero, ob_some, A0, B1, Option.filter_some, fl_int, if_true, List.length_range]
    simp [encT]
end K02

/-! ## K02r -/
namespace K02
open PySem PySem.Spec PyProof.Rows L2 VV VP
theorem rows_enc {h w : Nat} {f : Nat → Nat → Int} : encT h w f = .tup [.int h, .int w, .lst (rowsD ((List.range h).map fun i => (List.range w).map (f i)))] := by
  unfold encT rowsD
  rw [List.map_map]
  congr 5
  apply List.map_congr_left
  intro i hi
  simp only [rowD, Function.comp, List.map_map]
  rfl
theorem apart_ok {h w : Nat} {f : Nat → Nat → Int} (hh : h ≤ 1000) (hw : w ≤ 1000) {ρ : List D} {i : Nat} (e : ρ[i]? = some (encT h w f)) : rApart i ρ = some (.ret (.bl true), ρ) := by
  unfold rApart
  rw [e, rows_enc]
  dsimp only
  have key : ∀ r ∈ (List.range h).map (fun i => (List.range w).map (f i)), (r.length : Int) = w ∧ r.length < 1000000 := fun r hr => by
    obtain ⟨j, _, rfl⟩ := List.mem_map.mp hr
    simp
    omega
  rw [if_pos ⟨_, rfl, by simp; omega, key⟩]
theorem told_ok (x : LamId) (pk : List Kd) (semL : Ev) (dsc : List D) (h w : Nat) (f g : Nat → Nat → Int) (Ts : List D) (hh : h ≤ 1000) (hw : w ≤ 1000) (hp : pkOk pk dsc = true) (hs : semL dsc = some (encT h w g)) (e : ∀ i j, i < h → j < w → g i j = f i j)
    (hT : ∀ t ∈ Ts, ∃ a b u, t = encT a b u) : f__law_told x pk semL [.clo x dsc, encT h w f, .lst Ts] = some (.ret (.bl true)) := by
  unfold f__law_told
  refine fn_go (by simp [pkOk]) ?_
  show Go (m__law_told x pk semL) [.clo x dsc, encT h w f, .lst Ts, .non, .non, .non, .non] _
  unfold m__law_told
  have same := same_ok h w g f hh hw e
  obtain ⟨A, hA⟩ : ∃ A, A = encT h w f := ⟨_, rfl⟩
  obtain ⟨B, hB⟩ : ∃ B, B = encT h w g := ⟨_, rfl⟩
  have ap : ∀ (ρ : List D), ρ[5]? = some B → rApart 5 ρ = some (.ret (.bl true), ρ) := fun ρ hρ => apart_ok hh hw (by rw [hρ, hB])
  rw [← hA, ← hB] at same
  rw [← hA]
  rw [← hB] at hs
  have ec := lcL_map (t := gN 6) (c := cYes) (ρ := [.clo x dsc, A, .lst Ts, .non, .non, .non, .non]) (e := m__law_told_e1 x pk semL) (fun t : D => t) (fun t => t) Ts fun t ht => by
    obtain ⟨a, b, u, rfl⟩ := hT t ht
    refine ⟨_, gN_s, cYes_s, ?_⟩
    unfold m__law_told_e1
    simp [copy_ok]
  rw [List.map_id'] at ec
  have hne : dNe [.lst Ts, .lst Ts] = some (.bl false) := dNe_same (n := 4) (Ok.lst' fun a ha => by obtain ⟨_, _, _, rfl⟩ := hT a ha; exact ok_encT) (by decide)
  refine Go.set (d := .lst Ts) (by simp only [eLc_s, iLst_s, eVar_s, List.getElem?_cons_succ, List.getElem?_cons_zero, ob_some, asL_l, ec]) ?_
  unfold m__law_told_1
  rw [go_seq]
  refine go_for (fun i : Nat => D.int i) (List.range 2) (fun i ρ => ∃ y z q, ρ = [.clo x dsc, A, .lst Ts, .lst Ts, y, z, q]) (iR (n := 2) rfl (by decide)) ⟨_, _, _, rfl⟩ (fun i a ρ hi hR => ?_) fun ρ hR => ?_
  · obtain ⟨y, z, q, rfl⟩ := hR
    refine ⟨[.clo x dsc, A, .lst Ts, .lst Ts, .int a, z, q], by simp, ?_⟩
    unfold m__law_told_b1
    refine Go.set (d := B) (by unfold eClo; simp [hp, hs]) ?_
    unfold m__law_told_b1_1
    have t1 : tPure (wNot (tOf (eCall f__law_same (aCons (eVar 5) (aCons (eVar 1) aNil))))) [.clo x dsc, A, .lst Ts, .lst Ts, .int a, B, q] = some (false, [.clo x dsc, A, .lst Ts, .lst Ts, .int a, B, q]) := by
      simp [tPure, wNot, tOf, same]
    have t2 : tNotM (rApart 5) [.clo x dsc, A, .lst Ts, .lst Ts, .int a, B, q] = some (false, [.clo x dsc, A, .lst Ts, .lst Ts, .int a, B, q]) := by
      unfold tNotM
      rw [ap _ rfl]
      rfl
    have t3 : tPure (tOf (eP dNe (aCons (eVar 2) (aCons (eVar 3) aNil)))) [.clo x dsc, A, .lst Ts, .lst Ts, .int a, B, q] = some (false, [.clo x dsc, A, .lst Ts, .lst Ts, .int a, B, q]) := by
      simp [tPure, tOf, hne]
    refine ⟨.nx [.clo x dsc, A, .lst Ts, .lst Ts, .int a, B, q], ?_, _, .inl rfl, _, _, _, rfl⟩
    show sIfM _ _ [.clo x dsc, A, .lst Ts, .lst Ts, .int a, B, q] = _
    unfold sIfM wOrM
    simp only [t1, t2, t3]
  · obtain ⟨y, z, q, rfl⟩ := hR
    show Go _ _ _
    rw [go_ret]
    exact ⟨_, rfl, rfl⟩
theorem sizes_ok (c : Int) : ∃ h w d : Nat, f__law_sizes [.int c] = some (.ret (.lst [.int h, .int w, .int d])) ∧ h ≤ 400 ∧ w ≤ 400 ∧ d ≤ 400 := by
  obtain ⟨r, hr, hl, hb⟩ := row_ok c 6 4096 (by decide) (by decide) (by decide)
  obtain ⟨a0, a1, a2, a3, a4, a5, rfl⟩ : ∃ a0 a1 a2 a3 a4 a5, r = [a0, a1, a2, a3, a4, a5] := by
    match r, hl with
    | [a0, a1, a2, a3, a4, a5], _ => exact ⟨_, _, _, _, _, _, rfl⟩
  simp only [Int.cast_ofNat_Int] at hr
  obtain ⟨R, hR⟩ : ∃ R, R = D.lst ([a0, a1, a2, a3, a4, a5].map D.int) := ⟨_, rfl⟩
  have hcut : cutG ([a0, a1, a2, a3, a4, a5].map D.int) none (some 3) = [a0, a1, a2].map D.int := by simp [cutG, HT.sIx]
  have hf : (some R).filter D.isLst = some (.lst ([a0, a1, a2, a3, a4, a5].map D.int)) := by rw [hR]; rfl
  have part : ∀ (k : Int) (y z : D) (e : Ev), (∀ a : Int, e [.int c, R, y, .int a] = some (.int (a % k))) → eLc (iLst (eSl (eChk D.isLst (eVar 1)) oNone (oSome (eC (.int 3))))) (gF (gN 3)) cYes e [.int c, R, y, z] = some (.lst [.int (a0 % k), .int (a1 % k), .int (a2 % k)]) := by
    intro k y z e he
    have el := lcL_map (t := gF (gN 3)) (c := cYes) (ρ := [.int c, R, y, z]) (e := e) D.int (fun a => .int (a % k)) [a0, a1, a2] fun a _ => ⟨[.int c, R, y, .int a], by simp, cYes_s, he a⟩
    simp only [eLc_s, iLst_s, eSl_s, eChk_s, eVar_s, oNone_s, oSome_s, eC_s, List.getElem?_cons_succ, List.getElem?_cons_zero, hf, ob_some, Option.bind_some, dSl_l, asL_l, hcut, el]
    rfl
  have R3 : dIdx [R, .int 3] = some (.int a3) := by rw [hR]; rfl
  have R4 : dIdx [R, .int 4] = some (.int a4) := by rw [hR]; rfl
  have R5 : dIdx [R, .int 5] = some (.int a5) := by rw [hR]; rfl
  suffices hh : ∃ d, f__law_sizes [.int c] = some (.ret d) ∧ ∃ x y z : Int, d = .lst [.int x, .int y, .int z] ∧ (0 ≤ x ∧ x ≤ 400) ∧ (0 ≤ y ∧ y ≤ 400) ∧ 0 ≤ z ∧ z ≤ 400 by
    obtain ⟨d, h1, x, y, z, rfl, hx, hy, hz⟩ := hh
    refine ⟨x.toNat, y.toNat, z.toNat, ?_, by omega, by omega, by omega⟩
    rw [Int.toNat_of_nonneg hx.1, Int.toNat_of_nonneg hy.1, Int.toNat_of_nonneg hz.1]
    exact h1
  unfold f__law_sizes
  refine fn_ex (by simp [pkOk]) ?_
  show Go m__law_sizes [.int c, .non, .non, .non] _
  unfold m__law_sizes
  refine Go.set (d := R) (by simp [hR, hr, Option.filter_some]) ?_
  unfold m__law_sizes_1
  refine Go.set (d := .lst [.int (a0 % 7), .int (a1 % 7), .int (a2 % 7)]) (part 7 _ _ _ fun a => by unfold m__law_sizes_e1; simp) ?_
  unfold m__law_sizes_2
  have fin : ∀ (x y z : Int) (q : D), (0 ≤ x ∧ x ≤ 400) → (0 ≤ y ∧ y ≤ 400) → (0 ≤ z ∧ z ≤ 400) → Cont (sRet (eVar 2)) (fun o => ∃ d, o = .rt d ∧ ∃ x y z : Int, d = .lst [.int x, .int y, .int z] ∧ (0 ≤ x ∧ x ≤ 400) ∧ (0 ≤ y ∧ y ≤ 400) ∧ 0 ≤ z ∧ z ≤ 400) (.nx [.int c, R, .lst [.int x, .int y, .int z], q]) := by
    intro x y z q hx hy hz
    show Go _ _ _
    rw [go_ret]
    exact ⟨_, rfl, _, rfl, x, y, z, rfl, hx, hy, hz⟩
  refine Go.ite (p := a3 % 8 = 5) (by simp [R3, Option.filter_some, tOf]; rfl) (fun _ => ?_) fun _ => ?_
  · unfold m__law_sizes_c1
    refine Go.set (d := .lst [.int (a0 % 4), .int (a1 % 4), .int (a2 % 4)]) (part 4 _ _ _ fun a => by unfold m__law_sizes_e2; simp) ?_
    unfold m__law_sizes_c1_1
    have e2 : (eP dMod (aCons (eChk D.isFlat (eP dIdx (aCons (eVar 1) (aCons (eC (.int 5)) aNil)))) (aCons (eC (.int 401)) aNil))) [.int c, R, .lst [.int (a0 % 4), .int (a1 % 4), .int (a2 % 4)], .non] = some (.int (a5 % 401)) := by simp [R5, Option.filter_some]
    have e1 : (eP dMod (aCons (eChk D.isFlat (eP dIdx (aCons (eVar 1) (aCons (eC (.int 4)) aNil)))) (aCons (eC (.int 3)) aNil))) [.int c, R, .lst [.int (a0 % 4), .int (a1 % 4), .int (a2 % 4)], .non] = some (.int (a4 % 3)) := by simp [R4, Option.filter_some]
    have h3 : a4 % 3 = 0 ∨ a4 % 3 = 1 ∨ a4 % 3 = 2 := by omega
    rcases h3 with h3 | h3 | h3 <;> rw [h3] at e1
    · exact Go.put1 (z := .lst [.int (a5 % 401), .int (a1 % 4), .int (a2 % 4)]) e2 e1 rfl rfl (fin _ _ _ _ (by omega) (by omega) (by omega))
    · exact Go.put1 (z := .lst [.int (a0 % 4), .int (a5 % 401), .int (a2 % 4)]) e2 e1 rfl rfl (fin _ _ _ _ (by omega) (by omega) (by omega))
    · exact Go.put1 (z := .lst [.int (a0 % 4), .int (a1 % 4), .int (a5 % 401)]) e2 e1 rfl rfl (fin _ _ _ _ (by omega) (by omega) (by omega))
  · rw [go_nil]
    exact fin _ _ _ _ (by omega) (by omega) (by omega)
end K02

/-! ## K02q -/
namespace K02
open PySem PySem.Spec PyProof.Rows L2 VV VP
theorem last_ok {semG : LamId → List D → Option Res} {s1 s2 : Ev} {js : List Nat} {ρ dsc : List D} {d1 d2 d : D} (h1 : s1 ρ = some d1) (h2 : s2 ρ = some d2) (h3 : capD js ρ = some dsc) (h : ∀ x, semG x [d1, d2, .clo x dsc] = some (.ret d)) : eLast semG s1 s2 js ρ = some d := by
  simp only [eLast, h1, h2, h3, bind, Option.bind_some]
  exact lamRes_eq h
theorem first_ok {semG : LamId → List D → Option Res} {s2 s3 : Ev} {js : List Nat} {ρ dsc : List D} {d2 d3 d : D} (h2 : s2 ρ = some d2) (h3 : s3 ρ = some d3) (h1 : capD js ρ = some dsc) (h : ∀ x, semG x [.clo x dsc, d2, d3] = some (.ret d)) : eFirst semG js s2 s3 ρ = some d := by
  simp only [eFirst, h1, h2, h3, bind, Option.bind_some]
  exact lamRes_eq h
theorem law_go {n : Nat} {pk : List Kd} {m : Sv} {ds : List D} {d : D} (hp : pkOk pk ds = true) (h : Go m (ds ++ List.replicate (n - ds.length) .non) (fun o => o = .rt d)) : lawSem n pk m ds = some (.ret d) := by
  obtain ⟨o, h1, rfl⟩ := h
  unfold lawSem
  rw [if_pos hp, h1]
theorem at_tab {h w i j : Nat} {f : Nat → Nat → Int} {e0 e1 e2 : Ev} {ρ : List D} (h0 : e0 ρ = some (encT h w f)) (h1 : e1 ρ = some (.int i)) (h2 : e2 ρ = some (.int j)) (hi : i < h) (hj : j < w) :
    eChk D.isFlat (eP dIdx (aCons (eP dIdx (aCons (eP dIdx (aCons e0 (aCons (eC (.int 2)) aNil))) (aCons e1 aNil))) (aCons e2 aNil))) ρ = some (.int (f i j)) := by
  have g1 := at_row (h := h) (fun i => rowD w (f i)) hi
  have g2 := at_col (f i) hj
  simp only [eChk_s, eP_s, aCons_s, aNil_s, eC_s, h0, h1, h2, ob_some, enc2, g1, g2, Option.filter_some, fl_int, if_true]
theorem callE {F : List D → Option Res} {a : List D → Option (List D)} {ρ ds : List D} {d : D} (ha : a ρ = some ds) (hf : F ds = some (.ret d)) : eCall F a ρ = some d := by
  simp only [eCall_s, ha, ob_some, hf, asRet_s]
theorem cons {e : Ev} {r : List D → Option (List D)} {ρ ds : List D} {d : D} (h : e ρ = some d) (h' : r ρ = some ds) : aCons e r ρ = some (d :: ds) := by
  simp only [aCons_s, h, h', ob_some]
/-- a due table, and what is told -/
theorem ifn {e : Ev} {b : Sv} {ρ : List D} {Q : Out → Prop} (h : e ρ = some (.bl true)) (k : Go b ρ Q) : Go (sSeq (sIf (wNot (tOf e)) (sRet (eC (.bl false))) sNil) b) ρ Q := Go.no (by simp [wNot, tOf, h]) k
theorem law_true : ∀ ns : List Int, ns.length ≤ 63 → (∀ z ∈ ns, PySem.Builtin.Int.intBits z ≤ 1048576) → f_law [.scr (ns.map D.int)] = some (.ret (.bl true)) := by
  intro ns hn hz
  unfold f_law
  obtain ⟨L, hL⟩ : ∃ L, L = D.scr (ns.map D.int) := ⟨_, rfl⟩
  have cell : ∀ k : Nat, f__law_cell_at [L, .int k] = some (.ret (.int (ns.getD k 0))) := fun k => by rw [hL]; exact cell_ok ns k
  refine law_go (by simp) ?_
  rw [← hL]
  show Go m_law [L, .non, .non, .non, .non, .non, .non, .non, .non, .non] _
  have cellE : ∀ (k : Nat) (ρ : List D), eCall f__law_cell_at (aCons (eVar 0) (aCons (eC (.int k)) aNil)) (L :: ρ) = some (.int (ns.getD k 0)) := fun k ρ => by
    simp only [eCall_s, aCons_s, aNil_s, eVar_s, eC_s, List.getElem?_cons_zero, ob_some, cell, asRet_s]
  obtain ⟨h, w, d, hs, hh, hw, hd⟩ := sizes_ok (ns.getD 0 0)
  obtain ⟨f, hf, bf⟩ := table_ok (ns.getD 1 0) h w (by omega) (by omega)
  obtain ⟨g, hg, bg⟩ := table_ok (ns.getD 2 0) h w (by omega) (by omega)
  obtain ⟨t, ht, bt⟩ := table_ok (ns.getD 3 0) w d (by omega) (by omega)
  have c0 := cellE 0; have c1 := cellE 1; have c2 := cellE 2; have c3 := cellE 3; have c4 := cellE 4; have c5 := cellE 5
  simp only [Int.cast_ofNat_Int, Int.natCast_one, Int.ofNat_one, Int.natCast_zero, Int.ofNat_zero] at c0 c1 c2 c3 c4 c5
  have s4 : f__law_cell_at [L, .int 4] = some (.ret (.int (ns.getD 4 0))) := by simpa [-List.getD_eq_getElem?_getD] using cell 4
  have s5 : f__law_cell_at [L, .int 5] = some (.ret (.int (ns.getD 5 0))) := by simpa [-List.getD_eq_getElem?_getD] using cell 5
  unfold m_law
  refine Go.asg (d := .lst [.int h, .int w, .int d]) (ρ' := [L, .int d, .non, .non, .int h, .non, .non, .non, .non, .int w]) ?_ (by simp) ?_
  · have e : eCall f__law_sizes (aCons (eCall f__law_cell_at (aCons (eVar 0) (aCons (eC (.int 0)) aNil))) aNil) [L, .non, .non, .non, .non, .non, .non, .non, .non, .non] = some (.lst [.int h, .int w, .int d]) := callE (cons (c0 _) rfl) hs
    rw [eChk_s, e]
    rfl
  unfold m_law_1
  refine Go.set (d := encT h w f) (callE (cons (c1 _) (cons rfl (cons rfl rfl))) hf) ?_
  unfold m_law_2
  refine Go.set (d := encT h w g) (callE (cons (c2 _) (cons rfl (cons rfl rfl))) hg) ?_
  unfold m_law_3
  refine Go.set (d := encT w d t) (callE (cons (c3 _) (cons rfl (cons rfl rfl))) ht) ?_
  unfold m_law_4
  show Go _ [L, .int d, .non, .non, .int h, .non, encT h w f, encT h w g, encT w d t, .int w] _
  obtain ⟨n0, hn0, hb0⟩ : ∃ n0 : Int, (eP dSub (aCons (eP dMod (aCons (eCall f__law_cell_at (aCons (eVar 0) (aCons (eC (.int 4)) aNil))) (aCons (eC (.int 1000000000000000000000000000000000000000000000000000000000000)) aNil))) (aCons (eC (.int 500000000000000000000000000000000000000000000000000000000000)) aNil))) [L, .int d, .non, .non, .int h, .non, encT h w f, encT h w g, encT w d t, .int w] = some (.int n0) ∧ Bn 210 n0 := by
    refine ⟨ns.getD 4 0 % 1000000000000000000000000000000000000000000000000000000000000 - 500000000000000000000000000000000000000000000000000000000000, ?_, ?_⟩
    · have hm : ∀ y : Int, dMod [.int y, .int 1000000000000000000000000000000000000000000000000000000000000] = some (.int (y % 1000000000000000000000000000000000000000000000000000000000000)) := fun y => dMod_s (by decide)
      simp only [eP_s, aCons_s, aNil_s, eC_s, c4, ob_some, hm, dI2_s]
    · have h1 := Int.emod_lt_of_pos (ns.getD 4 0) (b := 1000000000000000000000000000000000000000000000000000000000000) (by decide)
      have h2 := Int.emod_nonneg (ns.getD 4 0) (b := 1000000000000000000000000000000000000000000000000000000000000) (by decide)
      unfold Bn
      omega
  refine Go.set hn0 ?_
  show Go _ [L, .int d, .non, .non, .int h, .int n0, encT h w f, encT h w g, encT w d t, .int w] _
  unfold m_law_5
  obtain ⟨A, hA⟩ : ∃ A, A = encT h w f := ⟨_, rfl⟩
  obtain ⟨B, hB⟩ : ∃ A, A = encT h w g := ⟨_, rfl⟩
  obtain ⟨C, hC⟩ : ∃ A, A = encT w d t := ⟨_, rfl⟩
  suffices rest : ∀ n : Int, Bn 210 n → Go m_law_6 [L, .int d, .non, .non, .int h, .int n, encT h w f, encT h w g, encT w d t, .int w] (fun o => o = .rt (.bl true)) by
    refine Go.ite (p := 0 < ns.getD 5 0 % 4) (by simp [s5, tOf, -List.getD_eq_getElem?_getD]) (fun _ => ?_) fun _ => ?_
    · unfold m_law_c1
      refine Go.set1 (d := .int (ns.getD 4 0 % 9 - 4)) (by simp [s4, -List.getD_eq_getElem?_getD]) (rest _ ?_)
      unfold Bn
      omega
    · rw [go_nil]
      exact rest _ hb0
  intro n hb
  have TA : ∀ t ∈ [encT h w f], ∃ a b u, t = encT a b u := fun t ht => by rw [List.mem_singleton.mp ht]; exact ⟨_, _, _, rfl⟩
  unfold m_law_6
  refine Go.set (d := encT h w fun i j => f i j + g i j) (last_ok rfl rfl rfl fun x => due_ok x lp_1 l_1 [encT h w f, encT h w g] h w _ (by omega) (by omega) fun i j hi hj => ⟨by simp [lp_1, pkOk], ?_⟩) ?_
  · have e1 := at_tab (e0 := eVar 0) (e1 := eVar 2) (e2 := eVar 3) (ρ := [encT h w f, encT h w g, .int i, .int j]) (f := f) rfl rfl rfl hi hj
    have e2 := at_tab (e0 := eVar 1) (e1 := eVar 2) (e2 := eVar 3) (ρ := [encT h w f, encT h w g, .int i, .int j]) (f := g) rfl rfl rfl hi hj
    show l_1 [encT h w f, encT h w g, .int i, .int j] = _
    unfold l_1
    simp only [eP_s, aCons_s, aNil_s, e1, e2, ob_some]
    simp
  unfold m_law_7
  refine ifn (first_ok rfl rfl rfl fun x => told_ok x lp_2 l_2 [encT h w f, encT h w g] h w _ _ _ (by omega) (by omega) (by simp [lp_2, pkOk]) (callE (cons rfl (cons rfl rfl)) (plus_ok h w f g)) (fun _ _ _ _ => rfl) fun t ht => ?_) ?_
  · simp only [List.mem_cons, List.not_mem_nil, or_false] at ht
    rcases ht with rfl | rfl <;> exact ⟨_, _, _, rfl⟩
  unfold m_law_8
  refine Go.set (d := encT h w fun i j => n * f i j) (last_ok rfl rfl rfl fun x => due_ok x lp_3 l_3 [.int n, encT h w f] h w _ (by omega) (by omega) fun i j hi hj => ⟨by simp [lp_3, pkOk, D.isFlat], ?_⟩) ?_
  · have e1 := at_tab (e0 := eVar 1) (e1 := eVar 2) (e2 := eVar 3) (ρ := [.int n, encT h w f, .int i, .int j]) (f := f) rfl rfl rfl hi hj
    show l_3 [.int n, encT h w f, .int i, .int j] = _
    unfold l_3
    simp only [eP_s, aCons_s, aNil_s, eVar_s, List.getElem?_cons_zero, e1, ob_some]
    exact dMul_s (hb.cmul (bf i j hi hj) (by decide))
  unfold m_law_9
  refine ifn (first_ok rfl rfl rfl fun x => told_ok x lp_4 l_4 [.int n, encT h w f] h w _ _ _ (by omega) (by omega) (by simp [lp_4, pkOk, D.isFlat]) (callE (cons rfl (cons rfl rfl)) (many_ok n h w f hb bf (by decide))) (fun _ _ _ _ => rfl) TA) ?_
  unfold m_law_10
  refine Go.set (d := encT w h fun i j => f j i) (last_ok rfl rfl rfl fun x => due_ok x lp_5 l_5 [encT h w f] w h _ (by omega) (by omega) fun i j hi hj => ⟨by simp [lp_5, pkOk, D.isFlat], ?_⟩) ?_
  · exact at_tab (e0 := eVar 0) (e1 := eVar 2) (e2 := eVar 1) (ρ := [encT h w f, .int i, .int j]) (f := f) rfl rfl rfl hj hi
  unfold m_law_11
  refine ifn (first_ok rfl rfl rfl fun x => told_ok x lp_6 l_6 [encT h w f] w h _ _ _ (by omega) (by omega) (by simp [lp_6, pkOk]) (callE (cons rfl rfl) (turned_ok h w f (by omega) (by omega))) (fun _ _ _ _ => rfl) TA) ?_
  unfold m_law_12
  refine Go.set (d := encT h w fun i j => 2 * f i j) (last_ok rfl rfl rfl fun x => due_ok x lp_7 l_7 [encT h w f] h w _ (by omega) (by omega) fun i j hi hj => ⟨by simp [lp_7, pkOk, D.isFlat], ?_⟩) ?_
  · have e1 := at_tab (e0 := eVar 0) (e1 := eVar 1) (e2 := eVar 2) (ρ := [encT h w f, .int i, .int j]) (f := f) rfl rfl rfl hi hj
    show l_7 [encT h w f, .int i, .int j] = _
    unfold l_7
    simp only [eP_s, aCons_s, aNil_s, eC_s, e1, ob_some]
    exact dMul_s (Bn.cmul (n := 2) (by unfold Bn; decide) (bf i j hi hj) (by decide))
  unfold m_law_13
  refine ifn (first_ok rfl rfl rfl fun x => told_ok x lp_8 l_8 [encT h w f] h w _ _ _ (by omega) (by omega) (by simp [lp_8, pkOk]) (callE (cons rfl (cons rfl rfl)) (plus_ok h w f f)) (fun i j _ _ => by omega) TA) ?_
  unfold m_law_14
  refine ifn (first_ok (callE (cons rfl (cons rfl rfl)) (times_ok h w d f t bf bt (by decide) (by omega) (by omega) (by omega))) rfl rfl fun x => told_ok x lp_9 l_9 [encT h w f, encT w d t] h d _ _ _ (by omega) (by omega) (by simp [lp_9, pkOk]) (callE (cons rfl (cons rfl rfl)) (product_ok h w d f t bf bt (by decide) (by omega) (by omega) (by omega))) (fun _ _ _ _ => rfl) fun t ht => ?_) ?_
  · simp only [List.mem_cons, List.not_mem_nil, or_false] at ht
    rcases ht with rfl | rfl <;> exact ⟨_, _, _, rfl⟩
  unfold m_law_15
  refine ifn (first_ok (last_ok rfl rfl rfl fun x => due_ok x lp_11 l_11 [] h w (fun _ _ => 0) (by omega) (by omega) fun i j hi hj => ⟨by simp [lp_11, pkOk, D.isFlat], rfl⟩) rfl rfl fun x => told_ok x lp_10 l_10 [.int h, .int w] h w _ _ _ (by omega) (by omega) (by simp [lp_10, pkOk, D.isFlat]) (callE (cons rfl (cons rfl rfl)) (nought_ok h w (by omega) (by omega))) (fun _ _ _ _ => rfl) fun t ht => nomatch ht) ?_
  unfold m_law_16
  have hm : (d : Int) % 41 = ((d % 41 : Nat) : Int) := by omega
  refine Go.set (d := .int ((d % 41 : Nat) : Int)) (by rw [← hm]; simp) ?_
  unfold m_law_17
  refine Go.ret (first_ok (last_ok rfl rfl rfl fun x => due_ok x lp_13 l_13 [] (d % 41) (d % 41) (fun i j => if i = j then 1 else 0) (by omega) (by omega) fun i j hi hj => ⟨by simp [lp_13, pkOk, D.isFlat], ?_⟩) rfl rfl fun x => told_ok x lp_12 l_12 [.int ((d % 41 : Nat) : Int)] (d % 41) (d % 41) _ _ _ (by omega) (by omega) (by simp [lp_12, pkOk, D.isFlat]) (callE (cons rfl rfl) (unit_ok (d % 41) (by omega))) (fun _ _ _ _ => rfl) fun t ht => nomatch ht) rfl
  unfold l_13
  by_cases hij : i = j
  · subst hij; simp
  · have : ¬ ((i : Int) = j) := by omega
    simp [hij, this]
end K02

/-! ## K02h -/
namespace K02
open PySem PySem.Spec PyProof.Rows L2 VV VP
def dd__law_row : He.DefD := ⟨("_law_row", none), "_law_row", "_law_row", defArgs s__law_row, defBody s__law_row, defScope s__law_row, [], []⟩
def dd__law_sizes : He.DefD := ⟨("_law_sizes", none), "_law_sizes", "_law_sizes", defArgs s__law_sizes, defBody s__law_sizes, defScope s__law_sizes, [], []⟩
def dd__law_entry : He.DefD := ⟨("_law_entry", none), "_law_entry", "_law_entry", defArgs s__law_entry, defBody s__law_entry, defScope s__law_entry, [], []⟩
def dd__law_table : He.DefD := ⟨("_law_table", none), "_law_table", "_law_table", defArgs s__law_table, defBody s__law_table, defScope s__law_table, [], []⟩
def dd__law_due : He.DefD := ⟨("_law_due", none), "_law_due", "_law_due", defArgs s__law_due, defBody s__law_due, defScope s__law_due, [], []⟩
def dd__law_copy : He.DefD := ⟨("_law_copy", none), "_law_copy", "_law_copy", defArgs s__law_copy, defBody s__law_copy, defScope s__law_copy, [], []⟩
def dd__law_whole : He.DefD := ⟨("_law_whole", none), "_law_whole", "_law_whole", defArgs s__law_whole, defBody s__law_whole, defScope s__law_whole, [], []⟩
def dd__law_same : He.DefD := ⟨("_law_same", none), "_law_same", "_law_same", defArgs s__law_same, defBody s__law_same, defScope s__law_same, [], []⟩
def dd__law_apart : He.DefD := ⟨("_law_apart", none), "_law_apart", "_law_apart", defArgs s__law_apart, defBody s__law_apart, defScope s__law_apart, [], []⟩
def dd__law_told : He.DefD := ⟨("_law_told", none), "_law_told", "_law_told", defArgs s__law_told, defBody s__law_told, defScope s__law_told, [], []⟩
def dd__law_cell_at : He.DefD := ⟨("_law_cell_at", none), "_law_cell_at", "_law_cell_at", defArgs s__law_cell_at, defBody s__law_cell_at, defScope s__law_cell_at, [], []⟩
def dd__law_times : He.DefD := ⟨("_law_times", none), "_law_times", "_law_times", defArgs s__law_times, defBody s__law_times, defScope s__law_times, [], []⟩
def dd_unit : He.DefD := ⟨("unit", none), "unit", "unit", defArgs s_unit, defBody s_unit, defScope s_unit, [], []⟩
def dd_plus : He.DefD := ⟨("plus", none), "plus", "plus", defArgs s_plus, defBody s_plus, defScope s_plus, [], []⟩
def dd_many_times : He.DefD := ⟨("many_times", none), "many_times", "many_times", defArgs s_many_times, defBody s_many_times, defScope s_many_times, [], []⟩
def dd_turned : He.DefD := ⟨("turned", none), "turned", "turned", defArgs s_turned, defBody s_turned, defScope s_turned, [], []⟩
def dd_product : He.DefD := ⟨("product", none), "product", "product", defArgs s_product, defBody s_product, defScope s_product, [], []⟩
def dd_nought : He.DefD := ⟨("nought", none), "nought", "nought", defArgs s_nought, defBody s_nought, defScope s_nought, [], []⟩
def dd_law : He.DefD := ⟨("law", none), "law", "law", defArgs s_law, defBody s_law, defScope s_law, [], []⟩
def fnD : List He.DefD := [dd__law_row, dd__law_sizes, dd__law_entry, dd__law_table, dd__law_due, dd__law_copy, dd__law_whole, dd__law_same, dd__law_apart, dd__law_told, dd__law_cell_at, dd__law_times, dd_unit, dd_plus, dd_many_times, dd_turned, dd_product, dd_nought, dd_law]
def faD : List He.Fa := [.glo "_law_row", .glo "_law_sizes", .glo "_law_entry", .glo "_law_table", .glo "_law_due", .glo "_law_copy", .glo "_law_whole", .glo "_law_same", .glo "_law_apart", .glo "_law_told", .glo "_law_cell_at", .glo "_law_times", .glo "unit", .glo "plus", .glo "many_times", .glo "turned", .glo "product", .glo "nought", .glo "law", .free "all", .free "bool", .free "int", .free "isinstance", .free "len", .free "list", .free "range", .free "sum", .free "tuple", .free "zip"]
abbrev RR : PySem.W.OpenRow := PySem.W.OpenLaw.row PySem.Challenge.rw_loopcube_k02_sums_and_products
abbrev ex0 : PySem.W.Frag → Bool := fun _ => true
abbrev hk : PySem.W.Hook := He.hookX 4 faD fnD [] [("law", none)] ex0
def ob (s : PySem.W.SharedT) : He.AlX := He.obsX 4 faD fnD [] [("law", none)] ex0 (HandSHeadRun.getT s)
theorem ob_eq (s : PySem.W.SharedT) : ob s = hk.obs s.abs := He.obsX_eq (HandSHeadRun.getT_eq s)
theorem run (w : World) : HandSHeadRun.RunEq RR (PySem.W.view RR.prog [23]) hk ob 4000 ["nought", "unit", "turned", "plus", "many_times", "product", "_law_cell_at", "_law_row", "_law_entry", "_law_table", "_law_copy", "_law_whole", "_law_same", "_law_times", "_law_sizes", "_law_due", "_law_apart", "_law_told", "CordError", "NoTable", "__name__"] w := by
  intro os
  kernel_rfl
theorem facts {P : Program} {w : World} {K : PySem.W.Frag} {h : Heap} {mg : Str → Option Value} {f : Addr} (X : K.In h) (G : h.Ns mainGlobals mg) (hfa : mg ("law" : Str) = some (.ref f)) (cX : He.SaysX faD fnD [] [("law", none)] ex0 w h K) :
    ∃ (fd : FuncData) (c Pt : Addr), h.get? Pt = some { cls := .none, data := .fields #[] } ∧ K.lookup Pt = none ∧ PySem.W.CodeHd h c Pt ∧ (∀ (s : Shared) (v : Value), BindsTo s fd ⟨[v], []⟩ [("_law_script", v)]) ∧
      ∀ base : Heap, K.In base → base.Ns mainGlobals mg → LamX.TabB base mg c Pt → FnOk P w K mg base CX0 5 f fd ["_law_script"] (spLaw ⟨mg, K⟩ [(Pt, qn)] f_law) := by
  have c := cX.t.d
  obtain ⟨fd__law_row, F__law_row⟩ := c.def_ 0 (d := dd__law_row) rfl
  obtain ⟨fd__law_sizes, F__law_sizes⟩ := c.def_ 1 (d := dd__law_sizes) rfl
  obtain ⟨fd__law_entry, F__law_entry⟩ := c.def_ 2 (d := dd__law_entry) rfl
  obtain ⟨fd__law_table, F__law_table⟩ := c.def_ 3 (d := dd__law_table) rfl
  obtain ⟨fd__law_due, F__law_due⟩ := c.def_ 4 (d := dd__law_due) rfl
  obtain ⟨fd__law_copy, F__law_copy⟩ := c.def_ 5 (d := dd__law_copy) rfl
  obtain ⟨fd__law_whole, F__law_whole⟩ := c.def_ 6 (d := dd__law_whole) rfl
  obtain ⟨fd__law_same, F__law_same⟩ := c.def_ 7 (d := dd__law_same) rfl
  obtain ⟨fd__law_apart, F__law_apart⟩ := c.def_ 8 (d := dd__law_apart) rfl
  obtain ⟨fd__law_told, F__law_told⟩ := c.def_ 9 (d := dd__law_told) rfl
  obtain ⟨fd__law_cell_at, F__law_cell_at⟩ := c.def_ 10 (d := dd__law_cell_at) rfl
  obtain ⟨fd__law_times, F__law_times⟩ := c.def_ 11 (d := dd__law_times) rfl
  obtain ⟨fd_unit, F_unit⟩ := c.def_ 12 (d := dd_unit) rfl
  obtain ⟨fd_plus, F_plus⟩ := c.def_ 13 (d := dd_plus) rfl
  obtain ⟨fd_many_times, F_many_times⟩ := c.def_ 14 (d := dd_many_times) rfl
  obtain ⟨fd_turned, F_turned⟩ := c.def_ 15 (d := dd_turned) rfl
  obtain ⟨fd_product, F_product⟩ := c.def_ 16 (d := dd_product) rfl
  obtain ⟨fd_nought, F_nought⟩ := c.def_ 17 (d := dd_nought) rfl
  obtain ⟨fd_law, F_law⟩ := c.def_ 18 (d := dd_law) rfl
  have b_all : mg "all" = none := He.free_ok X G (c.fact 19 (f := .free "all") rfl)
  have b_bool : mg "bool" = none := He.free_ok X G (c.fact 20 (f := .free "bool") rfl)
  have b_int : mg "int" = none := He.free_ok X G (c.fact 21 (f := .free "int") rfl)
  have b_isinstance : mg "isinstance" = none := He.free_ok X G (c.fact 22 (f := .free "isinstance") rfl)
  have b_len : mg "len" = none := He.free_ok X G (c.fact 23 (f := .free "len") rfl)
  have b_list : mg "list" = none := He.free_ok X G (c.fact 24 (f := .free "list") rfl)
  have b_range : mg "range" = none := He.free_ok X G (c.fact 25 (f := .free "range") rfl)
  have b_sum : mg "sum" = none := He.free_ok X G (c.fact 26 (f := .free "sum") rfl)
  have b_tuple : mg "tuple" = none := He.free_ok X G (c.fact 27 (f := .free "tuple") rfl)
  have b_zip : mg "zip" = none := He.free_ok X G (c.fact 28 (f := .free "zip") rfl)
  have e := hfa.symm.trans (He.glo_ok X G (c.fact 18 (f := .glo "law") rfl))
  cases e
  have bb := FunD.bindsA (ps := ["_law_script"]) F_law fun _ _ _ _ _ _ us hl => match us, hl with | [_], _ => rfl
  have m1 : (("law", none) : He.Defn) ∈ [(("law", none) : He.Defn)] := List.mem_singleton.mpr rfl
  have hc : ∀ (oc : Value) (od : Option Addr) (osl : Array (Option Value)) (fdx : FuncData), K.lookup (He.fAd K ("law", none)) = some ⟨oc, od, .func fdx, osl⟩ → fdx.code = .ref (He.cT K ("law", none)).1 := fun oc od osl fdx lk => by
    obtain ⟨oc2, od2, dV, kV, doc, pm, an, cdv, ct, osl2, e2, lk2, hcd, _, _⟩ := F_law.ex
    have e3 := lk.symm.trans lk2
    obtain ⟨cc, ecc⟩ := He.codeIn_ref hcd
    have e4 : fdx = fd_law := by
      have e5 := congrArg (fun o : Option Obj => o.map Obj.data) e3
      simp only [Option.map_some, Option.some.injEq, Data.func.injEq] at e5
      exact e5
    have e6 : fdx.code = .ref cc := by rw [e4, e2]; exact ecc
    rw [e6]
    exact congrArg Value.ref (He.codeOf_eq lk e6).symm
  refine ⟨fd_law, (He.cT K ("law", none)).1, (He.cT K ("law", none)).2, cX.empty _ m1, cX.out _ m1, PySem.W.codeHd_of_K X (cX.hd _ m1), fun s v => bb s [v] rfl, fun base _ _ TB => ?_⟩
  have c__law_row : ∀ base, Cal P w K mg base "_law_row" 1 ["_law_cell", "_law_many", "_law_base"] f__law_row .fresh := fun base => cal__law_row F__law_row (He.glo_ok X G (c.fact 0 (f := .glo "_law_row") rfl)) b_range
  have c__law_sizes : ∀ base, Cal P w K mg base "_law_sizes" 2 ["_law_cell"] f__law_sizes .fresh := fun base => cal__law_sizes F__law_sizes (He.glo_ok X G (c.fact 1 (f := .glo "_law_sizes") rfl)) (c__law_row base)
  have c__law_entry : ∀ base, Cal P w K mg base "_law_entry" 1 ["_law_digit"] f__law_entry .flat := fun base => cal__law_entry F__law_entry (He.glo_ok X G (c.fact 2 (f := .glo "_law_entry") rfl))
  have c__law_table : ∀ base, Cal P w K mg base "_law_table" 2 ["_law_cell", "_law_high", "_law_wide"] f__law_table .fresh := fun base => cal__law_table F__law_table (He.glo_ok X G (c.fact 3 (f := .glo "_law_table") rfl)) b_range (c__law_row base) (c__law_entry base)
  have c__law_copy : ∀ base, Cal P w K mg base "_law_copy" 1 ["_law_one"] f__law_copy .fresh := fun base => cal__law_copy F__law_copy (He.glo_ok X G (c.fact 5 (f := .glo "_law_copy") rfl)) b_list
  have c__law_whole : ∀ base, Cal P w K mg base "_law_whole" 1 ["_law_thing"] f__law_whole .flat := fun base => cal__law_whole F__law_whole (He.glo_ok X G (c.fact 6 (f := .glo "_law_whole") rfl)) b_bool b_int b_isinstance
  have c__law_same : ∀ base, Cal P w K mg base "_law_same" 2 ["_law_found", "_law_due_here"] f__law_same .flat := fun base => cal__law_same F__law_same (He.glo_ok X G (c.fact 7 (f := .glo "_law_same") rfl)) b_all b_isinstance b_len b_list b_tuple (c__law_whole base)
  have c__law_apart : ∀ base, CalAp P w K mg base "_law_apart" 1 := fun base => cal__law_apart F__law_apart (He.glo_ok X G (c.fact 8 (f := .glo "_law_apart") rfl)) b_len
  have c__law_cell_at : ∀ base, Cal P w K mg base "_law_cell_at" 1 ["_law_script", "_law_k"] f__law_cell_at .flat := fun base => cal__law_cell_at F__law_cell_at (He.glo_ok X G (c.fact 10 (f := .glo "_law_cell_at") rfl)) b_len
  have c__law_times : ∀ base, Cal P w K mg base "_law_times" 1 ["_law_one", "_law_other"] f__law_times .fresh := fun base => cal__law_times F__law_times (He.glo_ok X G (c.fact 11 (f := .glo "_law_times") rfl)) b_range b_sum
  have c_unit : ∀ base, Cal P w K mg base "unit" 1 ["many"] f_unit .fresh := fun base => cal_unit F_unit (He.glo_ok X G (c.fact 12 (f := .glo "unit") rfl)) b_int b_range
  have c_plus : ∀ base, Cal P w K mg base "plus" 1 ["one", "other"] f_plus .fresh := fun base => cal_plus F_plus (He.glo_ok X G (c.fact 13 (f := .glo "plus") rfl)) b_zip
  have c_many_times : ∀ base, Cal P w K mg base "many_times" 1 ["number", "one"] f_many_times .fresh := fun base => cal_many_times F_many_times (He.glo_ok X G (c.fact 14 (f := .glo "many_times") rfl))
  have c_turned : ∀ base, Cal P w K mg base "turned" 1 ["one"] f_turned .fresh := fun base => cal_turned F_turned (He.glo_ok X G (c.fact 15 (f := .glo "turned") rfl)) b_range
  have c_product : ∀ base, Cal P w K mg base "product" 1 ["one", "other"] f_product .fresh := fun base => cal_product F_product (He.glo_ok X G (c.fact 16 (f := .glo "product") rfl)) b_zip
  have c_nought : ∀ base, Cal P w K mg base "nought" 1 ["high", "wide"] f_nought .fresh := fun base => cal_nought F_nought (He.glo_ok X G (c.fact 17 (f := .glo "nought") rfl)) b_range
  exact ok_law F_law hc TB F__law_due (He.glo_ok X G (c.fact 4 (f := .glo "_law_due") rfl)) F__law_told (He.glo_ok X G (c.fact 9 (f := .glo "_law_told") rfl)) c__law_apart b_int b_range c__law_sizes c__law_table c__law_copy c__law_same c__law_cell_at c__law_times c_unit c_plus c_many_times c_turned c_product c_nought
end K02
open PySem PySem.W PySem.Calls PyProof.Rows
set_option maxRecDepth 100000 in
set_option maxHeartbeats 0 in
theorem PySem.Challenge.cw_loopcube_k02_sums_and_products_holds : PySem.Challenge.rw_loopcube_k02_sums_and_products.Holds := by
  w_on; o_law
  refine HandSHeadRun.head_any (r := OpenLaw.row PySem.Challenge.rw_loopcube_k02_sums_and_products) (q := view (OpenLaw.row PySem.Challenge.rw_loopcube_k02_sums_and_products).prog [23]) (H := K02.hk) (ob := K02.ob) (M := 4000) (loose := ["nought", "unit", "turned", "plus", "many_times", "product", "_law_cell_at", "_law_row", "_law_entry", "_law_table", "_law_copy", "_law_whole", "_law_same", "_law_times", "_law_sizes", "_law_due", "_law_apart", "_law_told", "CordError", "NoTable", "__name__"]) (d := HandSHeadRun.topDef (OpenLaw.row PySem.Challenge.rw_loopcube_k02_sums_and_products).prog 23) (kwd := []) K02.ob_eq
    (by kernel_rfl) (fun s => by kernel_rfl) K02.run (by kernel_rfl) (by kernel_rfl) (by kernel_rfl) (by rfl) (by first | assumption | decide +kernel) (by decide +kernel) ⟨rfl, rfl, rfl, rfl, rfl, by decide +kernel⟩ ?hw ?hc
  case hw => w_witness2
  case hc =>
    refine VV.walk_VT (l := PySem.Challenge.rw_loopcube_k02_sums_and_products) (n := 63) (k := 5) (x := "_law_script") (sem := K02.f_law) (qn := K02.qn) rfl (by decide) (by kernel_rfl) ⟨rfl, by decide, by decide⟩ K02.law_true ?F
    intro w mg fa h Y G hmg0
    obtain ⟨K, KX, c⟩ := Y
    have hmg : mg ("law" : PySem.Str) = some (.ref fa) := by
      have e : (HandSHeadRun.topDef (OpenLaw.row PySem.Challenge.rw_loopcube_k02_sums_and_products).prog 23).name = ("law" : PySem.Str) := by kernel_rfl
      rw [← e]
      exact hmg0
    obtain ⟨fd, cc, Pt, h1, h2, h3, hb, hF⟩ := K02.facts (P := (PySem.Challenge.rw_loopcube_k02_sums_and_products).prog) (w := w) KX G hmg c
    exact ⟨K, fd, cc, Pt, KX, h1, h2, h3, hb, hF⟩
