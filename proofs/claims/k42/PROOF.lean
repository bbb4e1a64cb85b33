import PyProof.Rows.All
import Wide.All
import OpenK.AllK
import Wide.FinOn
import KE.KStateDown
import Lean
import HandS.ForMost
import HandS.ForExc
import KE.KeyNested
import HandS.Wide
import HandS.WideBits
import HandS.Text
import HandS.Defaults
import HandS.TupAny
import HandS.NoneIn
import HandS.EndBits
import HandS.HeadEnd
import HandS.Head0
import HandS.Head1
import HandS.Head2
import HandS.HeadHook1
import HandS.HeadHook2
import HandS.DeepEq
import HandS.More
import HandS.DictComp
import HandS.IsInst
import HandS.ExcOwn
import HandS.ExcIs
import HandS.CallLocal
import HandS.HotCalls
import HandS.ExcCtx
import KE.SortData
import KE.DataFind
import HandS.Conv
import HandS.Deep
import HandS.SetFor
import HandS.Strs
import HandS.Zip
import HandS.TupMul
import HandS.SetKeys
import KE.GoesNew
import HandS.Hot
import KE.KIndexOf
import HandS.Sort
import HandS.Finally
import PyProof.ListNew
import PyProof.Rows.TupTab
import HandS.DictTup
import HandS.Replace
import HandS.StrMore
import PySem.Challenge.RW_loopcube_k42_divisors_gathered

/-! ## VRep -/
set_option Elab.async false
set_option linter.all false
set_option maxHeartbeats 0
set_option maxRecDepth 100000
namespace VV
open PySem PySem.Spec PyProof.Rows L2

/-- keys of dicts -/
inductive Ky where
  | k (x : Key) | t (xs : List Key)
  deriving DecidableEq

/-- the module's names, the written part -/
structure Mg where
  mg : Str → Option Value
  K : PySem.W.Frag
abbrev _root_.L2.Cx.vm (X : Cx) : Mg := ⟨X.mg, X.K⟩
/-- the script's list -/
def ScrAt (K : PySem.W.Frag) (H : Hp) (a : Addr) (xs : List V) : Prop := (∃ o, H a = some (.frz o (.lst xs))) ∨
    ∃ (o : Obj) (its : Array Value) (n : Nat), K.lookup a = some o ∧ o.cls = .type "list" ∧ o.dict = none ∧ o.data = .seq its n ∧ its.size ≤ sizeLine ∧ Vals xs its.toList
theorem ScrAt.sq {K : PySem.W.Frag} {H : Hp} {a : Addr} {xs : List V} (h : ScrAt K H a xs) : SqL K H a xs := h.imp .inr id
/-- an entry: the key, where its tuple stands, the value -/
abbrev Ne := NestedKey × Addr × V
def NeR (p : Ne) (q : NestedKey × Addr × Value) : Prop := p.1 = q.1 ∧ p.2.1 = q.2.1 ∧ RelV p.2.2 q.2.2
def NkObj (a : Addr) (xs : List Ne) (h : Heap) : Prop := ((a == sysModules) = false ∧ xs.length ≤ sizeLine ∧ (xs.map (·.1)).Nodup) ∧ ∃ ys : List (NestedKey × Addr × Value), Paired NeR xs ys ∧
  ∃ o es ep, h.get? a = some o ∧ o.ExactDict ∧ o.data = .dict es ep ∧ ∀ w : World, es.toList = ys.map fun y => ⟨y.1.hash w, .ref y.2.1, y.2.2⟩
def nkO (a : Addr) (xs : List Ne) : HO := .ext (NkObj a xs)
/-- a value as a tree -/
inductive D where
  | non | bl (b : Bool) | int (i : Int) | str (s : Str)
  | tup (l : List D) | lst (l : List D)
  /-- the script: a list that is known to the object -/
  | scr (l : List D)
  | dic (tk : Bool) (ks : List Ky) (vs : List D)
  | obj (c : Str) (ns : List Str) (fs : List D)
  | fn (x : Str)
  /-- a tuple of whole numbers that is known to the object, without a dict of its own -/
  | kti (l : List Int)
  /-- a dict whose keys are tuples of whole numbers, truths and such tuples, whose values are flat -/
  | dix (ks : List D) (vs : List D)
  /-- a tuple of texts of the module -/
  | ktx (l : List Str)

mutual
/-- a tree as such a key -/
def D.nk : D → Option NestedKey
  | .int i => some (.num i)
  | .bl b => some (.num (if b = true then 1 else 0))
  | .kti l => some (.tup (l.map .num))
  | .tup l => (D.nkL l).map .tup
  | _ => none
def D.nkL : List D → Option (List NestedKey)
  | [] => some []
  | d :: r => match d.nk, D.nkL r with
    | some k, some ks => some (k :: ks)
    | _, _ => none
end
/-- what stands at a may still be read as before -/
def _root_.L2.HO.bare : HO → Prop
  | .frz _ _ => False
  | _ => True
def Kp (H H' : Hp) (a : Addr) : Prop := (∀ u : HO, u.bare → Rd H a u → Rd H' a u) ∧ (∀ vs, H a = some (.lst vs) → H' a = some (.lst vs)) ∧ ∀ C dx fs, H a = some (.ins C dx fs) → H' a = some (.ins C dx fs)
/-- tuples and the script stay -/
def KpT (H H' : Hp) : Prop := (∀ a xs, H a = some (.tup xs) → H' a = some (.tup xs)) ∧ (∀ a o vs, H a = some (.frz o (.lst vs)) → H' a = some (.frz o (.lst vs))) ∧ ∀ a o vs, H a = some (.frz o (.tup vs)) → H' a = some (.frz o (.tup vs))
/-- the dict at a has these keys and values; tk: its keys are tuples -/
def RdD (H : Hp) (a : Addr) (tk : Bool) (ks : List Ky) (vs : List V) : Prop :=
  (ks.length = vs.length ∧ ks.Nodup) ∧ match tk with
  | false => ∃ kl : List Key, ks = kl.map Ky.k ∧ Rd H a (.dK (kl.zip vs))
  | true => ∃ kl : List (List Key), ks = kl.map Ky.t ∧ Rd H a (.dT (kl.zip vs))

mutual
def Rep (mg : Mg) (H : Hp) : D → V → List Addr → Prop
  | .non, v, fp => v = .non ∧ fp = []
  | .bl b, v, fp => v = .bl b ∧ fp = []
  | .int i, v, fp => v = .int i ∧ fp = []
  | .str s, v, fp => v = .str s ∧ fp = []
  | .fn x, v, fp => (∃ a, v = .ref a ∧ mg.mg x = some (.ref a)) ∧ fp = []
  | .kti l, v, fp => (∃ a o, v = .ref a ∧ H a = some (.frz o (.tup (l.map V.int))) ∧ o.dict = none) ∧ fp = []
  | .ktx l, v, fp => (∃ a, v = .ref a ∧ ∀ G, SqT mg.K G a (l.map V.str)) ∧ fp = []
  | .dix ks ds, v, fp => ∃ (a : Addr) (xs : List Ne), v = .ref a ∧ (Rd H a (nkO a xs) ∧ D.nkL ks = some (xs.map (·.1)) ∧ ∀ x ∈ xs, x.1.depth ≤ 8) ∧ RepL mg H ks (xs.map fun x => V.ref x.2.1) [] ∧ RepL mg H ds (xs.map fun x => x.2.2) [] ∧ fp = [a]
  | .tup ds, v, fp => ∃ a vs, v = .ref a ∧ H a = some (.tup vs) ∧ RepL mg H ds vs fp
  | .lst ds, v, fp => ∃ a vs f, v = .ref a ∧ H a = some (.lst vs) ∧ RepL mg H ds vs f ∧ fp = a :: f
  | .scr ds, v, fp => ∃ a vs, v = .ref a ∧ ScrAt mg.K H a vs ∧ RepL mg H ds vs [] ∧ fp = []
  | .dic tk ks ds, v, fp => ∃ a vs f, v = .ref a ∧ RdD H a tk ks vs ∧ RepL mg H ds vs f ∧ fp = a :: f
  | .obj c ns ds, v, fp => ∃ a C dx vs f, v = .ref a ∧ mg.mg c = some (.ref C) ∧ ns.length = vs.length ∧ H a = some (.ins C dx (ns.zip vs)) ∧ RepL mg H ds vs f ∧ fp = a :: f
def RepL (mg : Mg) (H : Hp) : List D → List V → List Addr → Prop
  | [], vs, fp => vs = [] ∧ fp = []
  | d :: ds, vs, fp => ∃ v r f1 f2, vs = v :: r ∧ Rep mg H d v f1 ∧ RepL mg H ds r f2 ∧ fp = f1 ++ f2
end

section
variable {mg : Mg} {H H' : Hp}

theorem RepL.length : ∀ {ds : List D} {vs : List V} {fp : List Addr}, RepL mg H ds vs fp → vs.length = ds.length
  | [], _, _, h => by simp only [RepL] at h; rw [h.1]; rfl
  | d :: ds, _, _, h => by
    simp only [RepL] at h
    obtain ⟨v, r, f1, f2, rfl, _, h2, _⟩ := h
    simp [RepL.length h2]

theorem RdD.keep {a : Addr} {tk : Bool} {ks : List Ky} {vs : List V} (h : RdD H a tk ks vs) (k : ∀ u : HO, u.bare → Rd H a u → Rd H' a u) : RdD H' a tk ks vs := by
  obtain ⟨h1, h2⟩ := h
  refine ⟨h1, ?_⟩
  cases tk with
  | false => obtain ⟨kl, e, r⟩ := h2; exact ⟨kl, e, k _ trivial r⟩
  | true => obtain ⟨kl, e, r⟩ := h2; exact ⟨kl, e, k _ trivial r⟩

mutual
theorem Rep.keep : ∀ {d : D} {v : V} {fp : List Addr}, Rep mg H d v fp → (∀ a, a ∈ fp → Kp H H' a) → KpT H H' → Rep mg H' d v fp
  | .non, _, _, h, _, _ => by simp only [Rep] at h ⊢; exact h
  | .bl _, _, _, h, _, _ => by simp only [Rep] at h ⊢; exact h
  | .int _, _, _, h, _, _ => by simp only [Rep] at h ⊢; exact h
  | .str _, _, _, h, _, _ => by simp only [Rep] at h ⊢; exact h
  | .fn _, _, _, h, _, _ => by simp only [Rep] at h ⊢; exact h
  | .ktx _, _, _, h, _, _ => by simp only [Rep] at h ⊢; exact h
  | .dix ks ds, _, _, h, k, kt => by
    simp only [Rep] at h ⊢
    obtain ⟨a, xs, rfl, ⟨r, c1, c2⟩, h1, h2, rfl⟩ := h
    exact ⟨a, xs, rfl, ⟨(k a List.mem_cons_self).1 _ trivial r, c1, c2⟩, RepL.keep h1 (fun b hb => nomatch hb) kt, RepL.keep h2 (fun b hb => nomatch hb) kt, rfl⟩
  | .kti _, _, _, h, _, kt => by
    simp only [Rep] at h ⊢
    obtain ⟨⟨a, o, e, r, d⟩, z⟩ := h
    exact ⟨⟨a, o, e, kt.2.2 a o _ r, d⟩, z⟩
  | .tup ds, _, _, h, k, kt => by
    simp only [Rep] at h ⊢
    obtain ⟨a, vs, rfl, r, h2⟩ := h
    exact ⟨a, vs, rfl, kt.1 a vs r, RepL.keep h2 k kt⟩
  | .lst ds, _, _, h, k, kt => by
    simp only [Rep] at h ⊢
    obtain ⟨a, vs, f, rfl, r, h2, rfl⟩ := h
    exact ⟨a, vs, f, rfl, (k a List.mem_cons_self).2.1 _ r, RepL.keep h2 (fun b hb => k b (List.mem_cons_of_mem _ hb)) kt, rfl⟩
  | .scr ds, _, _, h, k, kt => by
    simp only [Rep] at h ⊢
    obtain ⟨a, vs, rfl, r, h2, rfl⟩ := h
    exact ⟨a, vs, rfl, r.imp (fun ⟨o, r⟩ => ⟨o, kt.2.1 a o vs r⟩) id, RepL.keep h2 (fun b hb => nomatch hb) kt, rfl⟩
  | .dic tk ks ds, _, _, h, k, kt => by
    simp only [Rep] at h ⊢
    obtain ⟨a, vs, f, rfl, r, h2, rfl⟩ := h
    exact ⟨a, vs, f, rfl, r.keep (k a List.mem_cons_self).1, RepL.keep h2 (fun b hb => k b (List.mem_cons_of_mem _ hb)) kt, rfl⟩
  | .obj c ns ds, _, _, h, k, kt => by
    simp only [Rep] at h ⊢
    obtain ⟨a, C, dx, vs, f, rfl, hc, hl, r, h2, rfl⟩ := h
    exact ⟨a, C, dx, vs, f, rfl, hc, hl, (k a List.mem_cons_self).2.2 _ _ _ r, RepL.keep h2 (fun b hb => k b (List.mem_cons_of_mem _ hb)) kt, rfl⟩
theorem RepL.keep : ∀ {ds : List D} {vs : List V} {fp : List Addr}, RepL mg H ds vs fp → (∀ a, a ∈ fp → Kp H H' a) → KpT H H' → RepL mg H' ds vs fp
  | [], _, _, h, _, _ => by simp only [RepL] at h ⊢; exact h
  | d :: ds, _, _, h, k, kt => by
    simp only [RepL] at h ⊢
    obtain ⟨v, r, f1, f2, rfl, h1, h2, rfl⟩ := h
    exact ⟨v, r, f1, f2, rfl, Rep.keep h1 (fun b hb => k b (List.mem_append_left _ hb)) kt, RepL.keep h2 (fun b hb => k b (List.mem_append_right _ hb)) kt, rfl⟩
end


mutual
theorem Rep.there : ∀ {d : D} {v : V} {fp : List Addr}, Rep mg H d v fp → ∀ a ∈ fp, H a ≠ none
  | .non, _, _, h, a, ha => by simp only [Rep] at h; rw [h.2] at ha; cases ha
  | .bl _, _, _, h, a, ha => by simp only [Rep] at h; rw [h.2] at ha; cases ha
  | .int _, _, _, h, a, ha => by simp only [Rep] at h; rw [h.2] at ha; cases ha
  | .str _, _, _, h, a, ha => by simp only [Rep] at h; rw [h.2] at ha; cases ha
  | .fn _, _, _, h, a, ha => by simp only [Rep] at h; rw [h.2] at ha; cases ha
  | .ktx _, _, _, h, a, ha => by simp only [Rep] at h; rw [h.2] at ha; cases ha
  | .dix ks ds, _, _, h, a, ha => by
    simp only [Rep] at h
    obtain ⟨b, xs, rfl, ⟨r, _⟩, _, _, rfl⟩ := h
    rw [List.mem_singleton.mp ha]
    rcases r with r | ⟨o, r⟩ <;> rw [r] <;> simp
  | .kti _, _, _, h, a, ha => by simp only [Rep] at h; rw [h.2] at ha; cases ha
  | .tup ds, _, _, h, a, ha => by
    simp only [Rep] at h
    obtain ⟨_, vs, rfl, r, h2⟩ := h
    exact RepL.there h2 a ha
  | .lst ds, _, _, h, a, ha => by
    simp only [Rep] at h
    obtain ⟨b, vs, f, rfl, r, h2, rfl⟩ := h
    rcases List.mem_cons.mp ha with rfl | ha
    · rw [r]; simp
    · exact RepL.there h2 a ha
  | .scr ds, _, _, h, a, ha => by
    simp only [Rep] at h
    obtain ⟨b, vs, rfl, r, h2, rfl⟩ := h
    cases ha
  | .dic tk ks ds, _, _, h, a, ha => by
    simp only [Rep] at h
    obtain ⟨b, vs, f, rfl, ⟨_, r⟩, h2, rfl⟩ := h
    rcases List.mem_cons.mp ha with rfl | ha
    · cases tk with
      | false => obtain ⟨_, _, r | ⟨o, r⟩⟩ := r <;> rw [r] <;> simp
      | true => obtain ⟨_, _, r | ⟨o, r⟩⟩ := r <;> rw [r] <;> simp
    · exact RepL.there h2 a ha
  | .obj c ns ds, _, _, h, a, ha => by
    simp only [Rep] at h
    obtain ⟨b, C, dx, vs, f, rfl, _, _, r, h2, rfl⟩ := h
    rcases List.mem_cons.mp ha with rfl | ha
    · rw [r]; simp
    · exact RepL.there h2 a ha
theorem RepL.there : ∀ {ds : List D} {vs : List V} {fp : List Addr}, RepL mg H ds vs fp → ∀ a ∈ fp, H a ≠ none
  | [], _, _, h, a, ha => by simp only [RepL] at h; rw [h.2] at ha; cases ha
  | d :: ds, _, _, h, a, ha => by
    simp only [RepL] at h
    obtain ⟨v, r, f1, f2, rfl, h1, h2, rfl⟩ := h
    rcases List.mem_append.mp ha with ha | ha
    · exact Rep.there h1 a ha
    · exact RepL.there h2 a ha
end

/-- all that stands stands as before -/
def Ext (H H' : Hp) : Prop := ∀ a o, H a = some o → H' a = some o
theorem Ext.refl : Ext H H := fun _ _ h => h
theorem Ext.trans {H1 : Hp} (a : Ext H H1) (b : Ext H1 H') : Ext H H' := fun c o h => b c o (a c o h)
theorem Ext.rd (e : Ext H H') {a : Addr} {u : HO} (r : Rd H a u) : Rd H' a u := by
  rcases r with r | ⟨o, r⟩
  · exact .inl (e a u r)
  · exact .inr ⟨o, e a _ r⟩
theorem Ext.nope (e : Ext H H') {a : Addr} (h : H' a = none) : H a = none := by
  cases q : H a with
  | none => rfl
  | some o => rw [e a o q] at h; cases h
theorem Ext.put {a : Addr} {o : HO} (h : H a = none) : Ext H (upd H a o) := fun b u e => by
  rw [upd_ne (ne_of_none e h)]; exact e
theorem Ext.kp (e : Ext H H') (a : Addr) : Kp H H' a := ⟨fun _ _ r => e.rd r, fun _ r => e a _ r, fun _ _ _ r => e a _ r⟩
theorem Ext.kpT (e : Ext H H') : KpT H H' := ⟨fun a xs r => e a _ r, fun a o vs r => e a _ r, fun a o vs r => e a _ r⟩
theorem Rep.ext {d : D} {v : V} {fp : List Addr} (h : Rep mg H d v fp) (e : Ext H H') : Rep mg H' d v fp := h.keep (fun a _ => e.kp a) e.kpT
theorem RepL.ext {d : List D} {v : List V} {fp : List Addr} (h : RepL mg H d v fp) (e : Ext H H') : RepL mg H' d v fp := h.keep (fun a _ => e.kp a) e.kpT

theorem RepL.get : ∀ {ds : List D} {vs : List V} {fp : List Addr} {i : Nat} {d : D}, RepL mg H ds vs fp → ds[i]? = some d → ∃ v f1 f f2, vs[i]? = some v ∧ Rep mg H d v f ∧ fp = f1 ++ f ++ f2
  | [], _, _, _, _, _, e => by simp at e
  | x :: ds, _, _, 0, d, h, e => by
    simp only [RepL] at h
    obtain ⟨v, r, f1, f2, rfl, h1, h2, rfl⟩ := h
    simp at e; subst e
    exact ⟨v, [], f1, f2, rfl, h1, rfl⟩
  | x :: ds, _, _, i + 1, d, h, e => by
    simp only [RepL] at h
    obtain ⟨v, r, f1, f2, rfl, h1, h2, rfl⟩ := h
    obtain ⟨w, g1, g, g2, e1, e2, rfl⟩ := RepL.get (i := i) (d := d) h2 (by simpa using e)
    exact ⟨w, f1 ++ g1, g, g2, by simpa using e1, e2, by simp [List.append_assoc]⟩

theorem RepL.append : ∀ {ds es : List D} {vs us : List V} {f g : List Addr}, RepL mg H ds vs f → RepL mg H es us g → RepL mg H (ds ++ es) (vs ++ us) (f ++ g)
  | [], _, _, _, _, _, h, h' => by
    simp only [RepL] at h
    obtain ⟨rfl, rfl⟩ := h
    exact h'
  | d :: ds, es, _, us, _, g, h, h' => by
    simp only [RepL] at h
    obtain ⟨v, r, f1, f2, rfl, h1, h2, rfl⟩ := h
    simp only [List.cons_append, RepL]
    exact ⟨v, r ++ us, f1, f2 ++ g, rfl, h1, RepL.append h2 h', by simp [List.append_assoc]⟩
theorem RepL.one {d : D} {v : V} {f : List Addr} (h : Rep mg H d v f) : RepL mg H [d] [v] f := by
  simp only [RepL]
  exact ⟨v, [], f, [], rfl, h, ⟨rfl, rfl⟩, by simp⟩

end
end VV

/-! ## VExp -/
namespace VV
open PySem PySem.Spec PyProof.Rows L2

/-- kinds of slots -/
inductive Kd where
  | dead | flat | lab (rt : Option Nat) (L : List Nat) (nd : Bool)
  /-- the exception that is handled, at a, of the class c -/
  | exc (a : Addr) (c : Str)
  /-- an instance that is being made: its label, the labels below each attribute -/
  | ob (n : Nat) (Ls : List (List Nat))
  /-- an instance that holds a dict with texts as keys, its only attribute: the instance's label, the dict's, the labels of the values; fl: it is the def's own argument -/
  | dk (fl : Bool) (n l : Nat) (L : List Nat)
  /-- a list of two things, each of its own kind: the list's label -/
  | pr (p : Nat) (k1 k2 : Kd)
  /-- a tree of its own, no node twice: the root's label, those below; fl: it is the def's own argument -/
  | ow (fl : Bool) (n : Nat) (L : List Nat)
  deriving DecidableEq
/-- where a result's root comes from -/
inductive Rt where
  | new | old (n : Nat) | unk
  deriving DecidableEq
/-- kinds of results -/
inductive Md where
  | flat | al (fr : Bool) (rt : Rt) (L : List Nat) (nd : Bool)
  deriving DecidableEq

/-- what stands outside (the nodes of the arguments), what is locked for good while a loop walks it -/
structure Fm where
  out : Addr → Prop
  frz : Addr → Prop
def lk (LL : List Nat) (n : Nat) : Prop := n = 0 ∨ n ∈ LL
structure Loc (P : Fm) (LL : List Nat) (g : Addr → Nat) (H : Hp) : Prop where
  at_ : ∀ a, g a ≠ 0 → ∃ o, H a = some o ∧ (Mut (some o) ∨ P.frz a)
  out : ∀ a, P.out a → H a ≠ none
  fz : ∀ a, P.frz a → (∃ o u, H a = some (.frz o u)) ∧ lk LL (g a)

theorem Loc.fzn {P : Fm} {LL : List Nat} {g : Addr → Nat} {H : Hp} (l : Loc P LL g H) {a : Addr} (h : P.frz a) : H a ≠ none := by
  obtain ⟨⟨o, u, q⟩, _⟩ := l.fz a h
  rw [q]; simp

def Old (P : Fm) (g : Addr → Nat) (L : List Nat) (a : Addr) : Prop := g a ∈ L ∧ (g a = 0 → P.out a)
theorem Old.there {P : Fm} {LL : List Nat} {g : Addr → Nat} {H : Hp} {L : List Nat} {a : Addr} (l : Loc P LL g H) (o : Old P g L a) : H a ≠ none := by
  by_cases h : g a = 0
  · exact l.out a (o.2 h)
  · obtain ⟨u, e, _⟩ := l.at_ a h
    rw [e]; simp

/-- made since -/
def New (H H' : Hp) (a : Addr) : Prop := H a = none ∧ Mut (H' a)
/-- no node twice; the root not below itself -/
def Nd (nd kn : Bool) (v : V) (fp : List Addr) : Prop := (nd = true → fp.Nodup) ∧ (kn = true → ∀ a f, v = .ref a → fp = a :: f → a ∉ f)
theorem Nd.of {nd kn : Bool} {v : V} {fp : List Addr} (h : fp.Nodup) : Nd nd kn v fp := ⟨fun _ => h, fun _ a f _ e => by subst e; exact (List.nodup_cons.mp h).1⟩
theorem Nd.cons {nd kn : Bool} {p : Addr} {fp : List Addr} (h : p ∉ fp) (n : nd = true → fp.Nodup) : Nd nd kn (.ref p) (p :: fp) :=
  ⟨fun x => List.nodup_cons.mpr ⟨h, n x⟩, fun _ a f e1 e2 => by cases e2; exact h⟩
theorem Nd.unk {nd : Bool} {v : V} {fp : List Addr} (n : nd = true → fp.Nodup) : Nd nd false v fp := ⟨n, fun z => nomatch z⟩
def Rt.known : Rt → Bool
  | .unk => false
  | _ => true
/-- trees, values and nodes, one by one -/
def RepS (R : D → V → List Addr → Prop) : List D → List V → List (List Addr) → Prop
  | [], [], [] => True
  | d :: ds, v :: vs, f :: fs => R d v f ∧ RepS R ds vs fs
  | _, _, _ => False
def FpS (R : Addr → List Nat → Prop) : List (List Addr) → List (List Nat) → Prop
  | [], [] => True
  | f :: fs, L :: Ls => (∀ b ∈ f, R b L) ∧ FpS R fs Ls
  | _, _ => False
theorem RepS.mono {R R' : D → V → List Addr → Prop} : ∀ {ds : List D} {vs : List V} {fs : List (List Addr)}, RepS R ds vs fs → (∀ d v f, R d v f → R' d v f) → RepS R' ds vs fs
  | [], [], [], _, _ => trivial
  | _ :: _, _ :: _, _ :: _, h, k => ⟨k _ _ _ h.1, RepS.mono h.2 k⟩
  | [], _ :: _, _, h, _ => h.elim
  | [], [], _ :: _, h, _ => h.elim
  | _ :: _, [], _, h, _ => h.elim
  | _ :: _, _ :: _, [], h, _ => h.elim
theorem RepS.monoF {R R' : D → V → List Addr → Prop} : ∀ {ds : List D} {vs : List V} {fs : List (List Addr)}, RepS R ds vs fs → (∀ d v f, f ∈ fs → R d v f → R' d v f) → RepS R' ds vs fs
  | [], [], [], _, _ => trivial
  | _ :: _, _ :: _, _ :: _, h, k => ⟨k _ _ _ List.mem_cons_self h.1, RepS.monoF h.2 fun d v f hf => k d v f (List.mem_cons_of_mem _ hf)⟩
  | [], _ :: _, _, h, _ => h.elim
  | [], [], _ :: _, h, _ => h.elim
  | _ :: _, [], _, h, _ => h.elim
  | _ :: _, _ :: _, [], h, _ => h.elim
theorem FpS.mono {R R' : Addr → List Nat → Prop} : ∀ {fs : List (List Addr)} {Ls : List (List Nat)}, FpS R fs Ls → (∀ b L, R b L → R' b L) → FpS R' fs Ls
  | [], [], _, _ => trivial
  | _ :: _, _ :: _, h, k => ⟨fun b hb => k b _ (h.1 b hb), FpS.mono h.2 k⟩
  | [], _ :: _, h, _ => h.elim
  | _ :: _, [], h, _ => h.elim
theorem FpS.mem {R : Addr → List Nat → Prop} : ∀ {fs : List (List Addr)} {Ls : List (List Nat)} {f : List Addr} {b : Addr}, FpS R fs Ls → f ∈ fs → b ∈ f → ∃ L ∈ Ls, R b L
  | [], _, _, _, _, hf, _ => nomatch hf
  | _ :: _, _ :: _, _, _, h, hf, hb => by
    rcases List.mem_cons.mp hf with rfl | hf
    · exact ⟨_, List.mem_cons_self, h.1 _ hb⟩
    · obtain ⟨L, h1, h2⟩ := FpS.mem h.2 hf hb
      exact ⟨L, List.mem_cons_of_mem _ h1, h2⟩
  | _ :: _, [], _, _, h, _, _ => h.elim
/-- an instance at a, its dict at b -/
def DkAt (mg : Mg) (H : Hp) (d : D) (a b : Addr) (F : List Addr) : Prop := ∃ (C dx : Addr) (c f : Str) (ks : List Ky) (vs : List V) (ds : List D), d = .obj c [f] [.dic false ks ds] ∧ mg.mg c = some (.ref C) ∧ H a = some (.ins C dx [(f, .ref b)]) ∧ RdD H b false ks vs ∧ RepL mg H ds vs F
theorem DkAt.keep {mg : Mg} {H H' : Hp} {d : D} {a b : Addr} {F : List Addr} (h : DkAt mg H d a b F) (k : ∀ x, x ∈ a :: b :: F → Kp H H' x) (kt : KpT H H') : DkAt mg H' d a b F := by
  obtain ⟨C, dx, c, f, ks, vs, ds, e, hc, r, rd, rl⟩ := h
  exact ⟨C, dx, c, f, ks, vs, ds, e, hc, (k a (by simp)).2.2 _ _ _ r, rd.keep (k b (by simp)).1, rl.keep (fun x hx => k x (by simp [hx])) kt⟩
theorem DkAt.ext {mg : Mg} {H H' : Hp} {d : D} {a b : Addr} {F : List Addr} (h : DkAt mg H d a b F) (e : Ext H H') : DkAt mg H' d a b F := h.keep (fun x _ => e.kp x) e.kpT
def CellOk (mg : Mg) (P : Fm) (g : Addr → Nat) (H : Hp) : Kd → D → Option V → Prop
  | .dead, _, _ => True
  | .exc a c, d, ov => d = .str c ∧ ov = some (.ref a)
  | .ob n Ls, d, ov => ∃ (a C dx : Addr) (c : Str) (ns : List Str) (vs : List V) (ds : List D) (fps : List (List Addr)), d = .obj c ns ds ∧ ov = some (.ref a) ∧ mg.mg c = some (.ref C) ∧ ns.length = vs.length ∧ H a = some (.ins C dx (ns.zip vs)) ∧ (Old P g [n] a ∧ P.out a) ∧
      RepS (Rep mg H) ds vs fps ∧ FpS (fun b L => Old P g L b) fps Ls ∧ (a :: fps.flatten).Nodup
  | .dk fl n l L, d, ov => ∃ (a b : Addr) (F : List Addr), ov = some (.ref a) ∧ DkAt mg H d a b F ∧ Old P g [n] a ∧ Old P g [l] b ∧ (∀ x ∈ F, Old P g L x) ∧ (fl = true → P.out a ∧ P.out b)
  | .pr p k1 k2, d, ov => ∃ (a : Addr) (d1 d2 : D) (v1 v2 : V), d = .lst [d1, d2] ∧ ov = some (.ref a) ∧ H a = some (.lst [v1, v2]) ∧ Old P g [p] a ∧ CellOk mg P g H k1 d1 (some v1) ∧ CellOk mg P g H k2 d2 (some v2)
  | .ow fl n L, d, ov => ∃ (a : Addr) (f : List Addr), ov = some (.ref a) ∧ Rep mg H d (.ref a) (a :: f) ∧ (a :: f).Nodup ∧ Old P g [n] a ∧ (∀ x ∈ f, Old P g L x) ∧ (fl = true → P.out a)
  | .flat, d, ov => ∃ v, ov = some v ∧ Rep mg H d v []
  | .lab rt L nd, d, ov => ∃ v fp, ov = some v ∧ Rep mg H d v fp ∧ (∀ a ∈ fp, (v = .ref a ∧ ∃ n, rt = some n ∧ Old P g [n] a) ∨ ((v ≠ .ref a ∨ rt = none) ∧ Old P g L a)) ∧ Nd nd rt.isSome v fp

def Cells (mg : Mg) (P : Fm) (g : Addr → Nat) (H : Hp) : List Kd → List D → List (Option V) → Prop
  | [], [], [] => True
  | k :: Γ, d :: ρ, v :: σ => CellOk mg P g H k d v ∧ Cells mg P g H Γ ρ σ
  | _, _, _ => False

structure Sta (mg : Mg) (P : Fm) (LL : List Nat) (Γ : List Kd) (g : Addr → Nat) (ρ : List D) (σ : L2.St) (H : Hp) : Prop where
  loc : Loc P LL g H
  cells : Cells mg P g H Γ ρ σ

/-- the nodes of a result -/
def Nds (P : Fm) (g : Addr → Nat) (H H' : Hp) (fr : Bool) (rt : Rt) (L : List Nat) (nd : Bool) (v : V) (fp : List Addr) : Prop :=
  (∀ a ∈ fp, (v = .ref a ∧ match rt with | .new => New H H' a | .old n => Old P g [n] a | .unk => False) ∨ ((v ≠ .ref a ∨ rt = .unk) ∧ ((fr = true ∧ New H H' a) ∨ Old P g L a))) ∧ Nd nd rt.known v fp
/-- a result -/
def Val (mg : Mg) (P : Fm) (g : Addr → Nat) (H H' : Hp) : Md → D → V → Prop
  | .flat, d, v => Rep mg H' d v []
  | .al fr rt L nd, d, v => ∃ fp, Rep mg H' d v fp ∧ Nds P g H H' fr rt L nd v fp
/-- several -/
def Fps (P : Fm) (g : Addr → Nat) (H H' : Hp) : Md → List Addr → Prop
  | .flat, fp => fp = []
  | .al fr _ L nd, fp => (∀ a ∈ fp, (fr = true ∧ New H H' a) ∨ Old P g L a) ∧ (nd = true → fp.Nodup)
def ValL (mg : Mg) (P : Fm) (g : Addr → Nat) (H H' : Hp) (m : Md) (ds : List D) (vs : List V) : Prop := ∃ fp, RepL mg H' ds vs fp ∧ Fps P g H H' m fp

section
variable {mg : Mg} {P : Fm} {LL : List Nat} {Γ : List Kd} {g : Addr → Nat} {ρ : List D} {σ : L2.St} {H H' H1 : Hp}

theorem mut_of {o : Option HO} {o' : Option HO} (h : Mut o) (e : ∀ u, o = some u → o' = some u) : Mut o' := by
  cases o with
  | none => exact h.elim
  | some u => rw [e u rfl]; exact h

theorem Loc.ext (l : Loc P LL g H) (e : Ext H H') : Loc P LL g H' := ⟨fun a h => let ⟨o, q, m⟩ := l.at_ a h; ⟨o, e a o q, m⟩, fun a h z => l.out a h (e.nope z), fun a h => ⟨let ⟨⟨o, u, q⟩, _⟩ := l.fz a h; ⟨o, u, e a _ q⟩, (l.fz a h).2⟩⟩
theorem CellOk.ext {k : Kd} {d : D} {v : Option V} (c : CellOk mg P g H k d v) (e : Ext H H') : CellOk mg P g H' k d v := by
  induction k generalizing d v with
  | dead => trivial
  | exc _ _ => exact c
  | pr p k1 k2 i1 i2 =>
    obtain ⟨a, d1, d2, v1, v2, e0, e1, r, o, c1, c2⟩ := c
    exact ⟨a, d1, d2, v1, v2, e0, e1, e a _ r, o, i1 c1, i2 c2⟩
  | ob n Ls =>
    obtain ⟨a, C, dx, c, ns, vs, ds, fps, rfl, rfl, hc, hl, r, o, rs, fs, nd⟩ := c
    exact ⟨a, C, dx, c, ns, vs, ds, fps, rfl, rfl, hc, hl, e a _ r, o, rs.mono fun d v f h => h.ext e, fs, nd⟩
  | dk fl n l L =>
    obtain ⟨a, b, F, e0, r, q⟩ := c
    exact ⟨a, b, F, e0, r.ext e, q⟩
  | ow fl n L =>
    obtain ⟨a, f, e0, r, q⟩ := c
    exact ⟨a, f, e0, r.ext e, q⟩
  | flat => obtain ⟨v, rfl, r⟩ := c; exact ⟨v, rfl, r.ext e⟩
  | lab rt L nd => obtain ⟨v, fp, rfl, r, q⟩ := c; exact ⟨v, fp, rfl, r.ext e, q⟩
theorem New.ext {a : Addr} (n : New H H1 a) (e : Ext H1 H') : New H H' a := ⟨n.1, mut_of n.2 (e a)⟩
theorem New.back {a : Addr} (n : New H1 H' a) (e : Ext H H1) : New H H' a := ⟨e.nope n.1, n.2⟩
theorem Cells.ext (e : Ext H H') : ∀ {Γ : List Kd} {ρ : List D} {σ : L2.St}, Cells mg P g H Γ ρ σ → Cells mg P g H' Γ ρ σ
  | [], [], [], _ => trivial
  | _ :: _, _ :: _, _ :: _, h => ⟨h.1.ext e, Cells.ext e h.2⟩
  | [], _ :: _, _, h => h.elim
  | [], [], _ :: _, h => h.elim
  | _ :: _, [], _, h => h.elim
  | _ :: _, _ :: _, [], h => h.elim
theorem Sta.ext (s : Sta mg P LL Γ g ρ σ H) (e : Ext H H') : Sta mg P LL Γ g ρ σ H' := ⟨s.loc.ext e, s.cells.ext e⟩

theorem Cells.get : ∀ {Γ : List Kd} {ρ : List D} {σ : L2.St} {i : Nat} {k : Kd}, Cells mg P g H Γ ρ σ → Γ[i]? = some k → ∃ d ov, ρ[i]? = some d ∧ σ[i]? = some ov ∧ CellOk mg P g H k d ov
  | [], _, _, _, _, _, e => by simp at e
  | k :: Γ, d :: ρ, v :: σ, 0, k', h, e => by simp at e; subst e; exact ⟨d, v, rfl, rfl, h.1⟩
  | k :: Γ, d :: ρ, v :: σ, i + 1, k', h, e => by
    obtain ⟨d', ov, h1, h2, h3⟩ := Cells.get (i := i) (k := k') h.2 (by simpa using e)
    exact ⟨d', ov, by simpa using h1, by simpa using h2, h3⟩
  | _ :: _, [], _, _, _, h, _ => h.elim
  | _ :: _, _ :: _, [], _, _, h, _ => h.elim

theorem Nds.ext {fr : Bool} {rt : Rt} {L : List Nat} {nd : Bool} {v : V} {fp : List Addr} (h : Nds P g H H1 fr rt L nd v fp) (e : Ext H1 H') : Nds P g H H' fr rt L nd v fp := by
  refine ⟨fun a ha => ?_, h.2⟩
  rcases h.1 a ha with ⟨x, y⟩ | ⟨z, ⟨x, n⟩ | o⟩
  · refine .inl ⟨x, ?_⟩
    cases rt with
    | new => exact New.ext y e
    | old n => exact y
    | unk => exact y
  · exact .inr ⟨z, .inl ⟨x, n.ext e⟩⟩
  · exact .inr ⟨z, .inr o⟩
theorem Nds.back {fr : Bool} {rt : Rt} {L : List Nat} {nd : Bool} {v : V} {fp : List Addr} (h : Nds P g H1 H' fr rt L nd v fp) (e : Ext H H1) : Nds P g H H' fr rt L nd v fp := by
  refine ⟨fun a ha => ?_, h.2⟩
  rcases h.1 a ha with ⟨x, y⟩ | ⟨z, ⟨x, n⟩ | o⟩
  · refine .inl ⟨x, ?_⟩
    cases rt with
    | new => exact New.back y e
    | old n => exact y
    | unk => exact y
  · exact .inr ⟨z, .inl ⟨x, n.back e⟩⟩
  · exact .inr ⟨z, .inr o⟩
theorem Val.ext {m : Md} {d : D} {v : V} (h : Val mg P g H H1 m d v) (e : Ext H1 H') : Val mg P g H H' m d v := by
  cases m with
  | flat => exact Rep.ext h e
  | al fr rt L nd =>
    obtain ⟨fp, r, q⟩ := h
    exact ⟨fp, r.ext e, q.ext e⟩
theorem Fps.ext {m : Md} {fp : List Addr} (h : Fps P g H H1 m fp) (e : Ext H1 H') : Fps P g H H' m fp := by
  cases m with
  | flat => exact h
  | al fr rt L nd => exact ⟨fun a ha => (h.1 a ha).imp (fun ⟨x, n⟩ => ⟨x, n.ext e⟩) id, h.2⟩
theorem Fps.back {m : Md} {fp : List Addr} (h : Fps P g H1 H' m fp) (e : Ext H H1) : Fps P g H H' m fp := by
  cases m with
  | flat => exact h
  | al fr rt L nd => exact ⟨fun a ha => (h.1 a ha).imp (fun ⟨x, n⟩ => ⟨x, n.back e⟩) id, h.2⟩
/-- seen from an earlier heap -/
theorem Val.back {m : Md} {d : D} {v : V} (h : Val mg P g H1 H' m d v) (e : Ext H H1) : Val mg P g H H' m d v := by
  cases m with
  | flat => exact h
  | al fr rt L nd => obtain ⟨fp, r, q⟩ := h; exact ⟨fp, r, q.back e⟩
end

/-! ### expressions -/
abbrev Ev := List D → Option D
def EX (X : Cx) (LL : List Nat) (Γ : List Kd) (e : Expr) (sem : Ev) (m : Md) : Prop :=
  ∃ t, PE X e t ∧ ∀ P g ρ σ H d Q, Sta X.vm P LL Γ g ρ σ H → sem ρ = some d → (∀ v H', Ext H H' → Val X.vm P g H H' m d v → Q v H') → t σ H Q
def EA (X : Cx) (LL : List Nat) (Γ : List Kd) (es : List Expr) (sem : List D → Option (List D)) (m : Md) : Prop :=
  (∀ ρ ds, sem ρ = some ds → ds.length = es.length) ∧ ∃ t, PA X es t ∧ ∀ P g ρ σ H ds Q, Sta X.vm P LL Γ g ρ σ H → sem ρ = some ds → (∀ vs H', Ext H H' → ValL X.vm P g H H' m ds vs → Q vs H') → t σ H Q
def ET (X : Cx) (LL : List Nat) (Γ : List Kd) (e : Expr) (sem : List D → Option Bool) : Prop :=
  ∃ t, PT X e t ∧ ∀ P g ρ σ H b Q, Sta X.vm P LL Γ g ρ σ H → sem ρ = some b → (∀ H', Ext H H' → Q b H') → t σ H Q
def EW (X : Cx) (LL : List Nat) (Γ : List Kd) (e : Expr) (sem : List D → Option Bool) : Prop :=
  ∃ t, PW X e t ∧ ∀ P g ρ σ H b Q, Sta X.vm P LL Γ g ρ σ H → sem ρ = some b → (∀ H', Ext H H' → Q b H') → t σ H Q

/-- a slot that may be read as a tree -/
def Kd.use : Kd → Bool
  | .dead => false
  | .exc _ _ => false
  | .ob _ _ => false
  | .dk _ _ _ _ => false
  | .pr _ _ _ => false
  | .ow _ _ _ => false
  | _ => true
def Kd.md : Kd → Md
  | .dead => .flat
  | .exc _ _ => .flat
  | .ob _ _ => .flat
  | .dk _ _ _ _ => .flat
  | .pr _ _ _ => .flat
  | .ow _ _ _ => .flat
  | .flat => .flat
  | .lab rt L nd => .al false (match rt with | some n => .old n | none => .unk) L nd
def disj (a b : List Nat) : Bool := a.all fun x => !b.contains x
/-- the root's place said as any node's -/
def Md.unroot : Md → Md
  | .flat => .flat
  | .al _ .new L nd => .al true .unk L nd
  | .al fr (.old n) L nd => .al fr .unk (n :: L) nd
  | .al fr .unk L nd => .al fr .unk L nd
def Md.join1 : Md → Md → Md
  | .flat, .flat => .flat
  | .al fr rt L nd, .flat => .al fr .unk L nd
  | .flat, .al fr rt L nd => .al fr .unk L nd
  | .al fr _ L nd, .al fr' _ L' nd' => .al (fr || fr') .unk (L ++ L') (nd && nd' && disj L L')
def Md.join (m m' : Md) : Md := m.unroot.join1 m'

def eVar (i : Nat) : Ev := fun ρ => ρ[i]?
def eC (d : D) : Ev := fun _ => some d
def aNil : List D → Option (List D) := fun _ => some []
def aCons (e : Ev) (r : List D → Option (List D)) : List D → Option (List D) := fun ρ => do
  let d ← e ρ
  let ds ← r ρ
  some (d :: ds)
/-- an operation on values of arguments -/
def eP (f : List D → Option D) (a : List D → Option (List D)) : Ev := fun ρ => do f (← a ρ)
def eTup (a : List D → Option (List D)) : Ev := fun ρ => do let ds ← a ρ; some (.tup ds)
def eLst (a : List D → Option (List D)) : Ev := fun ρ => do let ds ← a ρ; some (.lst ds)

theorem bind_some {α β : Type} {x : Option α} {f : α → Option β} {b : β} (h : (x >>= f) = some b) : ∃ a, x = some a ∧ f a = some b := by
  cases x with
  | none => cases h
  | some a => exact ⟨a, rfl, h⟩

section
variable {X : Cx} {LL : List Nat} {Γ : List Kd} {pos : Pos}

theorem ex_var {x : Str} {k : Kd} (i : Nat) (hk : Γ[i]? = some k) (hd : k.use = true) (hN : X.N[i]? = some x) (hv : Vis X.env.scope x) (hdb : (x == ("__debug__" : Str)) = false := by decide)
    (hcd : (x == ("__classdict__" : Str)) = false := by decide) : EX X LL Γ (.Name x pos) (eVar i) k.md := by
  refine ⟨tVar i, pe_var hN hv hdb hcd, fun P g ρ σ H d Q s hs q => ?_⟩
  obtain ⟨d', ov, h1, h2, h3⟩ := s.cells.get hk
  have e : d' = d := Option.some.inj (h1.symm.trans hs)
  subst e
  cases k with
  | dead => cases hd
  | exc _ _ => cases hd
  | ob _ _ => cases hd
  | dk _ _ _ _ => cases hd
  | pr _ _ _ => cases hd
  | ow _ _ _ => cases hd
  | flat =>
    obtain ⟨v, rfl, r⟩ := h3
    exact ⟨v, h2, q v H Ext.refl r⟩
  | lab rt L nd =>
    obtain ⟨v, fp, rfl, r, o, n⟩ := h3
    refine ⟨v, h2, q v H Ext.refl ⟨fp, r, fun a ha => ?_, by cases rt <;> exact n⟩⟩
    rcases o a ha with ⟨e, k, rfl, o'⟩ | ⟨z, o'⟩
    · exact .inl ⟨e, o'⟩
    · refine .inr ⟨?_, .inr o'⟩
      rcases z with z | rfl
      · exact .inl z
      · exact .inr rfl

theorem val_flat {mg : Mg} {P : Fm} {g : Addr → Nat} {H H' : Hp} {d : D} {v : V} (r : Rep mg H' d v []) : Val mg P g H H' .flat d v := r
theorem rep_int {mg : Mg} {H : Hp} {i : Int} : Rep mg H (.int i) (.int i) [] := by simp [Rep]
theorem rep_str {mg : Mg} {H : Hp} {i : Str} : Rep mg H (.str i) (.str i) [] := by simp [Rep]
theorem rep_bl {mg : Mg} {H : Hp} {i : Bool} : Rep mg H (.bl i) (.bl i) [] := by simp [Rep]
theorem rep_non {mg : Mg} {H : Hp} : Rep mg H .non .non [] := by simp [Rep]

theorem ex_int {i : Int} {j} : EX X LL Γ (.Constant (.int i) j pos) (eC (.int i)) .flat :=
  ⟨_, pe_int, fun P g ρ σ H d Q s hs q => by cases hs; exact q _ _ Ext.refl (val_flat rep_int)⟩
theorem ex_bl {b : Bool} {j} : EX X LL Γ (.Constant (.bool b) j pos) (eC (.bl b)) .flat :=
  ⟨_, pe_bl, fun P g ρ σ H d Q s hs q => by cases hs; exact q _ _ Ext.refl (val_flat rep_bl)⟩
theorem ex_non {j} : EX X LL Γ (.Constant .none j pos) (eC .non) .flat :=
  ⟨_, pe_non, fun P g ρ σ H d Q s hs q => by cases hs; exact q _ _ Ext.refl (val_flat rep_non)⟩

theorem disj_ok {L L' : List Nat} {x : Nat} (h : disj L L' = true) (a : x ∈ L) : x ∉ L' := by
  unfold disj at h
  have := List.all_eq_true.mp h x a
  simpa using this

theorem Nds.unroot {P : Fm} {g : Addr → Nat} {H H' : Hp} {fr : Bool} {rt : Rt} {L : List Nat} {nd : Bool} {v : V} {fp : List Addr} (h : Nds P g H H' fr rt L nd v fp) : Fps P g H H' (Md.al fr rt L nd).unroot fp := by
  obtain ⟨o, n, _⟩ := h
  cases rt with
  | new =>
    refine ⟨fun a ha => ?_, n⟩
    rcases o a ha with ⟨_, x⟩ | ⟨_, ⟨_, x⟩ | x⟩
    · exact .inl ⟨rfl, x⟩
    · exact .inl ⟨rfl, x⟩
    · exact .inr x
  | old k =>
    refine ⟨fun a ha => ?_, n⟩
    rcases o a ha with ⟨_, x⟩ | ⟨_, x | x⟩
    · exact .inr ⟨by rw [List.mem_singleton.mp x.1]; exact List.mem_cons_self, x.2⟩
    · exact .inl x
    · exact .inr ⟨List.mem_cons_of_mem _ x.1, x.2⟩
  | unk =>
    refine ⟨fun a ha => ?_, n⟩
    rcases o a ha with ⟨_, x⟩ | ⟨_, x⟩
    · exact x.elim
    · exact x
theorem Val.unroot {mg : Mg} {P : Fm} {g : Addr → Nat} {H H' : Hp} {m : Md} {d : D} {v : V} (h : Val mg P g H H' m d v) : ∃ fp, Rep mg H' d v fp ∧ Fps P g H H' m.unroot fp := by
  cases m with
  | flat => exact ⟨[], h, rfl⟩
  | al fr rt L nd => obtain ⟨fp, r, o⟩ := h; exact ⟨fp, r, o.unroot⟩
theorem fps_join {P : Fm} {LL : List Nat} {g : Addr → Nat} {H H1 H2 : Hp} {m m' : Md} {f f' : List Addr} (l : Loc P LL g H) (e1 : Ext H H1) (e2 : Ext H1 H2) (h : Fps P g H H1 m f) (th : ∀ a ∈ f, H1 a ≠ none)
    (h' : Fps P g H1 H2 m' f') : Fps P g H H2 (m.join1 m') (f ++ f') := by
  have k := h.ext e2
  have k' := h'.back e1
  cases m with
  | flat =>
    obtain rfl : f = [] := h
    cases m' with
    | flat => exact k'
    | al fr rt L nd => exact k'
  | al fr rt L nd =>
    cases m' with
    | flat =>
      obtain rfl : f' = [] := h'
      rw [List.append_nil]
      exact k
    | al fr' rt' L' nd' =>
      refine ⟨fun a ha => ?_, fun hn => ?_⟩
      · rcases List.mem_append.mp ha with ha | ha
        · exact (k.1 a ha).imp (fun ⟨x, y⟩ => ⟨by rw [x]; rfl, y⟩) fun o => ⟨List.mem_append_left _ o.1, o.2⟩
        · exact (k'.1 a ha).imp (fun ⟨x, y⟩ => ⟨by rw [x]; cases fr <;> rfl, y⟩) fun o => ⟨List.mem_append_right _ o.1, o.2⟩
      · simp only [Bool.and_eq_true] at hn
        obtain ⟨⟨n1, n2⟩, dj⟩ := hn
        refine List.nodup_append.mpr ⟨h.2 n1, h'.2 n2, ?_⟩
        intro a ha b hb hab
        subst hab
        rcases h'.1 a hb with ⟨_, z, _⟩ | o'
        · exact th a ha z
        · rcases h.1 a ha with ⟨_, z, _⟩ | o
          · exact o'.there l z
          · exact disj_ok dj o.1 o'.1
theorem valL_cons {mg : Mg} {P : Fm} {LL : List Nat} {g : Addr → Nat} {H H1 H2 : Hp} {m m' : Md} {d : D} {ds : List D} {v : V} {vs : List V} (l : Loc P LL g H)
    (e1 : Ext H H1) (e2 : Ext H1 H2) (h : Val mg P g H H1 m d v) (h' : ValL mg P g H1 H2 m' ds vs) : ValL mg P g H H2 (m.join m') (d :: ds) (v :: vs) := by
  obtain ⟨f, r, o⟩ := h.unroot
  obtain ⟨f', r', o'⟩ := h'
  refine ⟨f ++ f', ?_, fps_join l e1 e2 o (fun a ha => r.there a ha) o'⟩
  simp only [RepL]
  exact ⟨v, vs, f, f', rfl, r.ext e2, r', rfl⟩
theorem valL_nil {mg : Mg} {P : Fm} {g : Addr → Nat} {H H' : Hp} : ValL mg P g H H' .flat [] [] := ⟨[], by simp [RepL], rfl⟩

theorem ea_nil : EA X LL Γ [] aNil .flat := ⟨fun ρ ds h => by cases h; rfl, _, pa_nil, fun P g ρ σ H ds Q s hs q => by
  cases hs
  exact q [] H Ext.refl valL_nil⟩
theorem ea_cons {e : Expr} {es : List Expr} {se : Ev} {sr : List D → Option (List D)} {m m' : Md} (h : EX X LL Γ e se m) (h' : EA X LL Γ es sr m')
    (hs : starEach (e :: es) X.env = (false, eval e X.env) :: starEach es X.env := by rfl) : EA X LL Γ (e :: es) (aCons se sr) (m.join m') := by
  obtain ⟨t, ht, k⟩ := h
  obtain ⟨hl, u, hu, k'⟩ := h'
  refine ⟨fun ρ ds e => by
    obtain ⟨d, e1, e⟩ := bind_some e
    obtain ⟨dr, e2, e⟩ := bind_some e
    cases e
    simp [hl ρ dr e2], _, pa_cons ht hu hs, fun P g ρ σ H ds Q s e q => ?_⟩
  obtain ⟨d, e1, e⟩ := bind_some e
  obtain ⟨dr, e2, e⟩ := bind_some e
  cases e
  refine k P g ρ σ H d _ s e1 fun v H1 x1 v1 => ?_
  refine k' P g ρ σ H1 dr _ (s.ext x1) e2 fun vs H2 x2 v2 => ?_
  exact q (v :: vs) H2 (x1.trans x2) (valL_cons s.loc x1 x2 v1 v2)

def Md.tup : Md → Md
  | .flat => .flat
  | .al fr _ L nd => .al fr .unk L nd
def Md.lst : Md → Md
  | .flat => .al false .new [] true
  | .al fr _ L nd => .al fr .new L nd

theorem val_tup {mg : Mg} {P : Fm} {g : Addr → Nat} {H H1 : Hp} {m : Md} {ds : List D} {vs : List V} {p : Addr} (h : ValL mg P g H H1 m ds vs) (hp : H1 p = none) :
    Val mg P g H (upd H1 p (.tup vs)) m.tup (.tup ds) (.ref p) := by
  have x : Ext H1 (upd H1 p (.tup vs)) := Ext.put hp
  obtain ⟨fp, r, q⟩ := h
  have rr : Rep mg (upd H1 p (.tup vs)) (.tup ds) (.ref p) fp := by
    simp only [Rep]
    exact ⟨p, vs, rfl, upd_same, r.ext x⟩
  have q := q.ext x
  cases m with
  | flat =>
    obtain rfl : fp = [] := q
    exact rr
  | al fr rt L nd => exact ⟨fp, rr, fun a ha => .inr ⟨.inr rfl, q.1 a ha⟩, .unk q.2⟩
theorem val_lst {mg : Mg} {P : Fm} {g : Addr → Nat} {H H1 : Hp} {m : Md} {ds : List D} {vs : List V} {p : Addr} (h : ValL mg P g H H1 m ds vs) (e : Ext H H1) (hp : H1 p = none) :
    Val mg P g H (upd H1 p (.lst vs)) m.lst (.lst ds) (.ref p) := by
  have x : Ext H1 (upd H1 p (.lst vs)) := Ext.put hp
  have mu : New H (upd H1 p (.lst vs)) p := ⟨e.nope hp, by rw [upd_same]; trivial⟩
  obtain ⟨fp, r, q⟩ := h
  have rr : Rep mg (upd H1 p (.lst vs)) (.lst ds) (.ref p) (p :: fp) := by
    simp only [Rep]
    exact ⟨p, vs, fp, rfl, upd_same, r.ext x, rfl⟩
  have hn : p ∉ fp := fun hm => r.there p hm hp
  have q := q.ext x
  cases m with
  | flat =>
    obtain rfl : fp = [] := q
    refine ⟨[p], rr, fun a ha => ?_, .of (by simp)⟩
    rw [List.mem_singleton.mp ha]
    exact .inl ⟨rfl, mu⟩
  | al fr rt L nd =>
    refine ⟨p :: fp, rr, fun a ha => ?_, .cons hn q.2⟩
    rcases List.mem_cons.mp ha with rfl | ha
    · exact .inl ⟨rfl, mu⟩
    · exact .inr ⟨.inl fun e => by cases e; exact hn ha, q.1 a ha⟩

theorem ValL.length {mg : Mg} {P : Fm} {g : Addr → Nat} {H H1 : Hp} {m : Md} {ds : List D} {vs : List V} (h : ValL mg P g H H1 m ds vs) : vs.length = ds.length := let ⟨_, r, _⟩ := h; r.length

theorem ex_tup {es : List Expr} {k} {sem : List D → Option (List D)} {m : Md} (h : EA X LL Γ es sem m) (hl : es.length ≤ 1000 := by decide) : EX X LL Γ (.Tuple es k pos) (eTup sem) m.tup := by
  obtain ⟨hz, t, ht, kk⟩ := h
  refine ⟨_, pe_tup ht, fun P g ρ σ H d Q s e q => ?_⟩
  obtain ⟨ds, e1, e⟩ := bind_some e
  cases e
  refine kk P g ρ σ H ds _ s e1 fun vs H1 x1 v1 => ⟨?_, fun p hp => ?_⟩
  · rw [v1.length, hz _ _ e1]; exact Nat.le_of_lt (small1000 hl)
  · exact q _ _ (x1.trans (Ext.put hp)) (val_tup v1 hp)
theorem ex_lst {es : List Expr} {sem : List D → Option (List D)} {m : Md} (h : EA X LL Γ es sem m) (hl : es.length ≤ 1000 := by decide) : EX X LL Γ (.List es pos) (eLst sem) m.lst := by
  obtain ⟨hz, t, ht, kk⟩ := h
  refine ⟨_, pe_lst ht, fun P g ρ σ H d Q s e q => ?_⟩
  obtain ⟨ds, e1, e⟩ := bind_some e
  cases e
  refine kk P g ρ σ H ds _ s e1 fun vs H1 x1 v1 => ⟨?_, fun p hp => ?_⟩
  · rw [v1.length, hz _ _ e1]; exact Nat.le_of_lt (small1000 hl)
  · exact q _ _ (x1.trans (Ext.put hp)) (val_lst v1 x1 hp)
end
end VV

/-! ## VOps -/
namespace VV
open PySem PySem.Spec PyProof.Rows L2

/-- an operation by values keeps to a function of trees -/
def CP (X : Cx) (r : List V → Hp → VK → Prop) (f : List D → Option D) (md : Md → Md) : Prop :=
  ∀ P LL g H H1 m ds vs d Q, Loc P LL g H → Ext H H1 → ValL X.vm P g H H1 m ds vs → f ds = some d → (∀ v H', Ext H1 H' → Val X.vm P g H H' (md m) d v → Q v H') → r vs H1 Q
def r1 (r : V → Hp → VK → Prop) : List V → Hp → VK → Prop := fun vs H Q => ∃ a, vs = [a] ∧ r a H Q
def r2 (r : R2) : List V → Hp → VK → Prop := fun vs H Q => ∃ a b, vs = [a, b] ∧ r a b H Q
abbrev toFlat : Md → Md := fun _ => .flat

section
variable {X : Cx} {LL : List Nat} {Γ : List Kd} {pos : Pos}

/-- two arguments in a row -/
theorem two {a b : Expr} {sa sb : Ev} {ma mb : Md} (ha : EX X LL Γ a sa ma) (hb : EX X LL Γ b sb mb) :
    ∃ ta tb, PE X a ta ∧ PE X b tb ∧ ∀ P g ρ σ H ds (Q : V → V → Hp → Prop), Sta X.vm P LL Γ g ρ σ H → aCons sa (aCons sb aNil) ρ = some ds →
      (∀ d e v w H', ds = [d, e] → Ext H H' → Val X.vm P g H H' ma d v → Val X.vm P g H H' mb e w → ValL X.vm P g H H' (ma.join (mb.join .flat)) ds [v, w] → Q v w H') → ta σ H fun v H1 => tb σ H1 fun w H2 => Q v w H2 := by
  obtain ⟨ta, pa, ka⟩ := ha
  obtain ⟨tb, pb, kb⟩ := hb
  refine ⟨ta, tb, pa, pb, fun P g ρ σ H ds Q s e q => ?_⟩
  obtain ⟨d, e1, e⟩ := bind_some e
  obtain ⟨dr, e2, e⟩ := bind_some e
  cases e
  obtain ⟨d2, e3, e2⟩ := bind_some e2
  cases e2
  refine ka P g ρ σ H d _ s e1 fun v H1 x1 v1 => ?_
  refine kb P g ρ σ H1 d2 _ (s.ext x1) e3 fun w H2 x2 v2 => ?_
  refine q d d2 v w H2 rfl (x1.trans x2) (v1.ext x2) (v2.back x1) (valL_cons s.loc x1 x2 v1 ?_)
  exact valL_cons (s.loc.ext x1) x2 Ext.refl v2 valL_nil

theorem ex_bin {a b : Expr} {sa sb : Ev} {ma mb : Md} {op : Operator} {r : R2} {f : List D → Option D} {md : Md → Md} (ho : OpR X (binaryOp op) r) (hc : CP X (r2 r) f md) (ha : EX X LL Γ a sa ma) (hb : EX X LL Γ b sb mb) :
    EX X LL Γ (.BinOp a op b pos) (eP f (aCons sa (aCons sb aNil))) (md (ma.join (mb.join .flat))) := by
  obtain ⟨ta, tb, pa, pb, k⟩ := two ha hb
  refine ⟨_, pe_op ho pa pb, fun P g ρ σ H d Q s e q => ?_⟩
  obtain ⟨ds, e1, e⟩ := bind_some e
  refine k P g ρ σ H ds _ s e1 fun d1 d2 v w H' _ x va vb vl => ?_
  obtain ⟨_, _, e3, z⟩ := hc P LL g H H' _ ds _ d Q s.loc x vl e fun v2 H2 x2 w2 => q v2 H2 (x.trans x2) w2
  cases e3
  exact z
theorem ex_un {a : Expr} {sa : Ev} {ma : Md} {op : UnaryOp} {r : V → Hp → VK → Prop} {f : List D → Option D} {md : Md → Md} (ho : UnR X (unaryOp op) r) (hc : CP X (r1 r) f md) (ha : EX X LL Γ a sa ma) :
    EX X LL Γ (.UnaryOp op a pos) (eP f (aCons sa aNil)) (md (ma.join .flat)) := by
  obtain ⟨ta, pa, k⟩ := ha
  refine ⟨_, pe_un ho pa, fun P g ρ σ H d Q s e q => ?_⟩
  obtain ⟨ds, e1, e⟩ := bind_some e
  obtain ⟨d1, e2, e1⟩ := bind_some e1
  cases e1
  refine k P g ρ σ H d1 _ s e2 fun v H1 x1 v1 => ?_
  have vl := valL_cons s.loc x1 Ext.refl v1 valL_nil
  obtain ⟨_, e3, z⟩ := hc P LL g H H1 _ _ _ d Q s.loc x1 vl e fun v2 H2 x2 w2 => q v2 H2 (x1.trans x2) w2
  cases e3
  exact z
theorem ex_cmp {a b : Expr} {sa sb : Ev} {ma mb : Md} {op : CmpOp} {r : R2} {f : List D → Option D} {md : Md → Md} (ho : OpR X (compareOp op) r) (hc : CP X (r2 r) f md) (ha : EX X LL Γ a sa ma) (hb : EX X LL Γ b sb mb)
    (hm : behindInMarks op b = false) : EX X LL Γ (.Compare a [op] [b] pos) (eP f (aCons sa (aCons sb aNil))) (md (ma.join (mb.join .flat))) := by
  obtain ⟨ta, tb, pa, pb, k⟩ := two ha hb
  refine ⟨_, pe_cmpR ho pa pb hm, fun P g ρ σ H d Q s e q => ?_⟩
  obtain ⟨ds, e1, e⟩ := bind_some e
  refine k P g ρ σ H ds _ s e1 fun d1 d2 v w H' _ x va vb vl => ?_
  obtain ⟨_, _, e3, z⟩ := hc P LL g H H' _ ds _ d Q s.loc x vl e fun v2 H2 x2 w2 => q v2 H2 (x.trans x2) w2
  cases e3
  exact z
/-- a test by a value -/
def tOf (s : Ev) : List D → Option Bool := fun ρ => do match (← s ρ) with | .bl b => some b | _ => none
theorem et_cmp {a b : Expr} {sa sb : Ev} {ma mb : Md} {op : CmpOp} {r : R2} {f : List D → Option D} {md : Md → Md} (ho : OpR X (compareOp op) r) (hc : CP X (r2 r) f md) (ha : EX X LL Γ a sa ma) (hb : EX X LL Γ b sb mb)
    (hm : behindInMarks op b = false) (hf : ∀ m, md m = .flat := by intro _; rfl) : ET X LL Γ (.Compare a [op] [b] pos) (tOf (eP f (aCons sa (aCons sb aNil)))) := by
  obtain ⟨ta, tb, pa, pb, k⟩ := two ha hb
  refine ⟨_, pt_cmpR ho pa pb hm, fun P g ρ σ H c Q s e q => ?_⟩
  obtain ⟨d, e0, e⟩ := bind_some e
  obtain ⟨ds, e1, e0⟩ := bind_some e0
  refine k P g ρ σ H ds _ s e1 fun d1 d2 v w H' _ x va vb vl => ?_
  obtain ⟨_, _, e3, z⟩ := hc P LL g H H' _ ds _ d (fun x H' => ∃ k, x = .bl k ∧ Q k H') s.loc x vl e0 fun v2 H2 x2 w2 => by
    rw [hf] at w2
    cases d with
    | bl b' =>
      cases e
      have w2 : Rep _ _ _ _ _ := w2
      simp only [Rep] at w2
      exact ⟨_, w2.1, q H2 (x.trans x2)⟩
    | _ => cases e
  cases e3
  exact z
theorem et_val {a : Expr} {sa : Ev} (ha : EX X LL Γ a sa .flat) (he : ∀ whole, isTrue a X.env whole = (do let v ← whole; standAt a.pos; holding [v] (truthy v)) := by intro _; rfl) : ET X LL Γ a (tOf sa) := by
  obtain ⟨t, p, k⟩ := ha
  refine ⟨_, pt_val p he, fun P g ρ σ H b Q s e q => ?_⟩
  obtain ⟨d, e0, e⟩ := bind_some e
  refine k P g ρ σ H d _ s e0 fun v H' x vl => ?_
  cases d with
  | bl b' =>
    cases e
    have w2 : Rep _ _ _ _ _ := vl
    simp only [Rep] at w2
    exact ⟨_, w2.1, q H' x⟩
  | _ => cases e
theorem et_w {a : Expr} {s : List D → Option Bool} (h : EW X LL Γ a s) : ET X LL Γ a s := let ⟨t, p, k⟩ := h; ⟨t, p.pt, k⟩
def wAnd (a b : List D → Option Bool) : List D → Option Bool := fun ρ => do if (← a ρ) then b ρ else some false
def wOr (a b : List D → Option Bool) : List D → Option Bool := fun ρ => do if (← a ρ) then some true else b ρ
def wNot (a : List D → Option Bool) : List D → Option Bool := fun ρ => do some (!(← a ρ))
theorem ew_and1 {a : Expr} {s : List D → Option Bool} (h : ET X LL Γ a s) : EW X LL Γ (.BoolOp .And [a] pos) s := let ⟨t, p, k⟩ := h; ⟨t, pw_and1 p, k⟩
theorem ew_or1 {a : Expr} {s : List D → Option Bool} (h : ET X LL Γ a s) : EW X LL Γ (.BoolOp .Or [a] pos) s := let ⟨t, p, k⟩ := h; ⟨t, pw_or1 p, k⟩
theorem ew_and {a b : Expr} {rest : List Expr} {s u : List D → Option Bool} (h : ET X LL Γ a s) (h' : EW X LL Γ (.BoolOp .And (b :: rest) pos) u) : EW X LL Γ (.BoolOp .And (a :: b :: rest) pos) (wAnd s u) := by
  obtain ⟨t, p, k⟩ := h
  obtain ⟨t', p', k'⟩ := h'
  refine ⟨_, pw_and p p', fun P g ρ σ H c Q st e q => ?_⟩
  obtain ⟨d, e0, e⟩ := bind_some e
  refine k P g ρ σ H d _ st e0 fun H' x => ?_
  cases d with
  | true => exact iteT (k' P g ρ σ H' c Q (st.ext x) (by simpa using e) fun H2 x2 => q H2 (x.trans x2))
  | false => exact iteF (by cases (by simpa using e : false = c); exact q H' x)
theorem ew_or {a b : Expr} {rest : List Expr} {s u : List D → Option Bool} (h : ET X LL Γ a s) (h' : EW X LL Γ (.BoolOp .Or (b :: rest) pos) u) : EW X LL Γ (.BoolOp .Or (a :: b :: rest) pos) (wOr s u) := by
  obtain ⟨t, p, k⟩ := h
  obtain ⟨t', p', k'⟩ := h'
  refine ⟨_, pw_or p p', fun P g ρ σ H c Q st e q => ?_⟩
  obtain ⟨d, e0, e⟩ := bind_some e
  refine k P g ρ σ H d _ st e0 fun H' x => ?_
  cases d with
  | false => exact iteF (k' P g ρ σ H' c Q (st.ext x) (by simpa using e) fun H2 x2 => q H2 (x.trans x2))
  | true => exact iteT (by cases (by simpa using e : true = c); exact q H' x)
theorem et_not {a : Expr} {s : List D → Option Bool} (h : ET X LL Γ a s) : ET X LL Γ (.UnaryOp .Not a pos) (wNot s) := by
  obtain ⟨t, p, k⟩ := h
  refine ⟨_, pt_not p, fun P g ρ σ H c Q st e q => ?_⟩
  obtain ⟨d, e0, e⟩ := bind_some e
  refine k P g ρ σ H d _ st e0 fun H' x => ?_
  cases e
  exact q H' x

/-- calls of built-ins -/
theorem ex_callB {x : Str} {id : String} {p : Pos} {e : Expr} {es : List Expr} {r : List V → Hp → VK → Prop} {f : List D → Option D} {md : Md → Md} {sem : List D → Option (List D)} {m : Md} (hr : CallR X (.builtin id) r) (hc : CP X r f md)
    (hg : Gl X x) (hm : X.mg x = none) (hv : bootBuiltins x = some (.builtin id)) (ha : EA X LL Γ (e :: es) sem m) (hn : x ≠ "__name__" := by decide) (hdb : (x == ("__debug__" : Str)) = false := by decide)
    (he : starEach (e :: es) X.env = (false, eval e X.env) :: starEach es X.env := by rfl) (hpl : (backTo pos (starEach es X.env)).any (·.1) = false := by rfl) : EX X LL Γ (.Call (.Name x p) (e :: es) [] pos) (eP f sem) (md m) := by
  obtain ⟨_, t, pt, k⟩ := ha
  refine ⟨_, pe_callB hr hg hm hv pt hn hdb he hpl, fun P g ρ σ H d Q s e q => ?_⟩
  obtain ⟨ds, e1, e⟩ := bind_some e
  exact k P g ρ σ H ds _ s e1 fun vs H' x vl => hc P LL g H H' _ ds vs d Q s.loc x vl e fun v2 H2 x2 w2 => q v2 H2 (x.trans x2) w2
theorem ex_callTy {x : Str} {T : String} {p : Pos} {e : Expr} {es : List Expr} {r : List V → Hp → VK → Prop} {f : List D → Option D} {md : Md → Md} {sem : List D → Option (List D)} {m : Md} (hr : CallR X (.type T) r) (hc : CP X r f md)
    (hg : Gl X x) (hm : X.mg x = none) (hv : bootBuiltins x = some (.type T)) (ha : EA X LL Γ (e :: es) sem m) (hn : x ≠ "__name__" := by decide) (hdb : (x == ("__debug__" : Str)) = false := by decide)
    (he : starEach (e :: es) X.env = (false, eval e X.env) :: starEach es X.env := by rfl) (hpl : (backTo pos (starEach es X.env)).any (·.1) = false := by rfl) : EX X LL Γ (.Call (.Name x p) (e :: es) [] pos) (eP f sem) (md m) := by
  obtain ⟨_, t, pt, k⟩ := ha
  refine ⟨_, pe_callTy hr hg hm hv pt hn hdb he hpl, fun P g ρ σ H d Q s e q => ?_⟩
  obtain ⟨ds, e1, e⟩ := bind_some e
  exact k P g ρ σ H ds _ s e1 fun vs H' x vl => hc P LL g H H' _ ds vs d Q s.loc x vl e fun v2 H2 x2 w2 => q v2 H2 (x.trans x2) w2
end
end VV

/-! ## VPrim -/
namespace VV
open PySem PySem.Spec PyProof.Rows L2

theorem ValL.rep {mg : Mg} {P : Fm} {g : Addr → Nat} {H H' : Hp} {m : Md} {ds : List D} {vs : List V} (h : ValL mg P g H H' m ds vs) : ∃ fp, RepL mg H' ds vs fp := let ⟨fp, r, _⟩ := h; ⟨fp, r⟩
theorem repL1 {mg : Mg} {H : Hp} {d : D} {vs : List V} {fp : List Addr} (h : RepL mg H [d] vs fp) : ∃ v, vs = [v] ∧ Rep mg H d v fp := by
  simp only [RepL] at h
  obtain ⟨v, r, f1, f2, rfl, h1, ⟨rfl, rfl⟩, rfl⟩ := h
  exact ⟨v, rfl, by simpa using h1⟩
theorem repL2 {mg : Mg} {H : Hp} {d e : D} {vs : List V} {fp : List Addr} (h : RepL mg H [d, e] vs fp) : ∃ v w f1 f2, vs = [v, w] ∧ Rep mg H d v f1 ∧ Rep mg H e w f2 ∧ fp = f1 ++ f2 := by
  simp only [RepL] at h
  obtain ⟨v, r, f1, f2, rfl, h1, ⟨w, r', g1, g2, rfl, h2, ⟨rfl, rfl⟩, rfl⟩, rfl⟩ := h
  exact ⟨v, w, f1, g1, rfl, h1, by simpa using h2, by simp⟩
theorem rInt {mg : Mg} {H : Hp} {i : Int} {v : V} {fp : List Addr} (h : Rep mg H (.int i) v fp) : v = .int i := by simp only [Rep] at h; exact h.1
theorem rStr {mg : Mg} {H : Hp} {i : Str} {v : V} {fp : List Addr} (h : Rep mg H (.str i) v fp) : v = .str i := by simp only [Rep] at h; exact h.1
theorem rBl {mg : Mg} {H : Hp} {i : Bool} {v : V} {fp : List Addr} (h : Rep mg H (.bl i) v fp) : v = .bl i := by simp only [Rep] at h; exact h.1
theorem rNon {mg : Mg} {H : Hp} {v : V} {fp : List Addr} (h : Rep mg H .non v fp) : v = .non := by simp only [Rep] at h; exact h.1

/-! ### ints -/
def dII (C : Int → Int → Prop) [DecidableRel C] (f : Int → Int → Int) : List D → Option D
  | [.int a, .int b] => if C a b then some (.int (f a b)) else none
  | _ => none
def dI2 (f : Int → Int → Int) : List D → Option D
  | [.int a, .int b] => some (.int (f a b))
  | _ => none
def dB2 (f : Int → Int → Bool) : List D → Option D
  | [.int a, .int b] => some (.bl (f a b))
  | _ => none
def dI1 (f : Int → Int) : List D → Option D
  | [.int a] => some (.int (f a))
  | _ => none
theorem dII_inv {C : Int → Int → Prop} [DecidableRel C] {f : Int → Int → Int} {ds : List D} {d : D} (h : dII C f ds = some d) : ∃ a b, ds = [.int a, .int b] ∧ C a b ∧ d = .int (f a b) := by
  unfold dII at h
  split at h
  · split at h
    · cases h; exact ⟨_, _, rfl, by assumption, rfl⟩
    · cases h
  · cases h
theorem dI2_inv {f : Int → Int → Int} {ds : List D} {d : D} (h : dI2 f ds = some d) : ∃ a b, ds = [.int a, .int b] ∧ d = .int (f a b) := by
  unfold dI2 at h
  split at h
  · cases h; exact ⟨_, _, rfl, rfl⟩
  · cases h
theorem dB2_inv {f : Int → Int → Bool} {ds : List D} {d : D} (h : dB2 f ds = some d) : ∃ a b, ds = [.int a, .int b] ∧ d = .bl (f a b) := by
  unfold dB2 at h
  split at h
  · cases h; exact ⟨_, _, rfl, rfl⟩
  · cases h
theorem dI1_inv {f : Int → Int} {ds : List D} {d : D} (h : dI1 f ds = some d) : ∃ a, ds = [.int a] ∧ d = .int (f a) := by
  unfold dI1 at h
  split at h
  · cases h; exact ⟨_, rfl, rfl⟩
  · cases h
section
variable {X : Cx}
theorem cp_ii {C : Int → Int → Prop} [DecidableRel C] {f : Int → Int → Int} : CP X (r2 (rI C fun i j => .int (f i j))) (dII C f) toFlat := by
  intro P LL g H H1 m ds vs d Q l x vl e q
  obtain ⟨a, b, rfl, hc, rfl⟩ := dII_inv e
  obtain ⟨fp, r⟩ := vl.rep
  obtain ⟨v, w, f1, f2, rfl, h1, h2, _⟩ := repL2 r
  exact ⟨v, w, rfl, a, b, rInt h1, rInt h2, hc, q _ H1 Ext.refl (val_flat rep_int)⟩
theorem cp_i2 {f : Int → Int → Int} : CP X (r2 (rI0 fun i j => .int (f i j))) (dI2 f) toFlat := by
  intro P LL g H H1 m ds vs d Q l x vl e q
  obtain ⟨a, b, rfl, rfl⟩ := dI2_inv e
  obtain ⟨fp, r⟩ := vl.rep
  obtain ⟨v, w, f1, f2, rfl, h1, h2, _⟩ := repL2 r
  exact ⟨v, w, rfl, a, b, rInt h1, rInt h2, q _ H1 Ext.refl (val_flat rep_int)⟩
theorem cp_b2 {f : Int → Int → Bool} : CP X (r2 (rI0 fun i j => .bl (f i j))) (dB2 f) toFlat := by
  intro P LL g H H1 m ds vs d Q l x vl e q
  obtain ⟨a, b, rfl, rfl⟩ := dB2_inv e
  obtain ⟨fp, r⟩ := vl.rep
  obtain ⟨v, w, f1, f2, rfl, h1, h2, _⟩ := repL2 r
  exact ⟨v, w, rfl, a, b, rInt h1, rInt h2, q _ H1 Ext.refl (val_flat rep_bl)⟩
theorem cp_u {f : Int → Int} : CP X (r1 (rU fun i => .int (f i))) (dI1 f) toFlat := by
  intro P LL g H H1 m ds vs d Q l x vl e q
  obtain ⟨a, rfl, rfl⟩ := dI1_inv e
  obtain ⟨fp, r⟩ := vl.rep
  obtain ⟨v, rfl, h1⟩ := repL1 r
  exact ⟨v, rfl, a, rInt h1, q _ H1 Ext.refl (val_flat rep_int)⟩
end
instance : DecidableRel CDivW := fun _ _ => inferInstanceAs (Decidable (_ ∧ _))
instance : DecidableRel CMulX := fun i j => decidable_of_iff (Builtin.Int.intBits i + Builtin.Int.intBits j ≤ 134217728) (by unfold CMulX; omega)
instance : DecidableRel CPow := fun _ _ => inferInstanceAs (Decidable (_ ∧ _ ∧ _))
def CPos (_ j : Int) : Prop := 0 < j
instance : DecidableRel CPos := fun _ j => inferInstanceAs (Decidable (0 < j))
abbrev dAdd := dI2 fun i j => i + j
abbrev dMul := dII CMulX fun i j => i * j
abbrev dDiv := dII CDivW fun i j => i / j
abbrev dMod := dII CPos fun i j => i % j
abbrev dPow := dII CPow fun i j => i ^ j.toNat
abbrev dNeg := dI1 fun i => -i
abbrev dLt := dB2 fun i j => decide (i < j)
abbrev dGt := dB2 fun i j => decide (j < i)
section
variable {X : Cx} {LL : List Nat} {Γ : List Kd} {pos : Pos} {a b : Expr} {sa sb : Ev} {ma mb : Md}
theorem ex_add (ha : EX X LL Γ a sa ma) (hb : EX X LL Γ b sb mb) : EX X LL Γ (.BinOp a .Add b pos) (eP dAdd (aCons sa (aCons sb aNil))) .flat := ex_bin op_add cp_i2 ha hb
theorem ex_mul (ha : EX X LL Γ a sa ma) (hb : EX X LL Γ b sb mb) : EX X LL Γ (.BinOp a .Mult b pos) (eP dMul (aCons sa (aCons sb aNil))) .flat := ex_bin op_mulX cp_ii ha hb
theorem ex_div (ha : EX X LL Γ a sa ma) (hb : EX X LL Γ b sb mb) : EX X LL Γ (.BinOp a .FloorDiv b pos) (eP dDiv (aCons sa (aCons sb aNil))) .flat := ex_bin op_fdivW cp_ii ha hb
theorem ex_mod (ha : EX X LL Γ a sa ma) (hb : EX X LL Γ b sb mb) : EX X LL Γ (.BinOp a .Mod b pos) (eP dMod (aCons sa (aCons sb aNil))) .flat := ex_bin (op_mod (X := X)) (cp_ii (C := CPos)) ha hb
theorem ex_pow (ha : EX X LL Γ a sa ma) (hb : EX X LL Γ b sb mb) : EX X LL Γ (.BinOp a .Pow b pos) (eP dPow (aCons sa (aCons sb aNil))) .flat := ex_bin op_pow cp_ii ha hb
theorem ex_neg (ha : EX X LL Γ a sa ma) : EX X LL Γ (.UnaryOp .USub a pos) (eP dNeg (aCons sa aNil)) .flat := ex_un un_neg cp_u ha
theorem et_lt (ha : EX X LL Γ a sa ma) (hb : EX X LL Γ b sb mb) : ET X LL Γ (.Compare a [.Lt] [b] pos) (tOf (eP dLt (aCons sa (aCons sb aNil)))) := et_cmp op_lt cp_b2 ha hb (nomark _)
theorem et_gt (ha : EX X LL Γ a sa ma) (hb : EX X LL Γ b sb mb) : ET X LL Γ (.Compare a [.Gt] [b] pos) (tOf (eP dGt (aCons sa (aCons sb aNil)))) := et_cmp op_gt cp_b2 ha hb (nomark _)
end
end VV

/-! ## VSeq -/
namespace VV
open PySem PySem.Spec PyProof.Rows L2

mutual
def D.isFlat : D → Bool
  | .tup l => D.isFlatL l
  | .lst _ => false
  | .dic _ _ _ => false
  | .obj _ _ _ => false
  | .dix _ _ => false
  | _ => true
def D.isFlatL : List D → Bool
  | [] => true
  | d :: r => d.isFlat && D.isFlatL r
end
mutual
theorem Rep.flat {mg : Mg} {H : Hp} : ∀ {d : D} {v : V} {fp : List Addr}, Rep mg H d v fp → d.isFlat = true → fp = []
  | .non, _, _, h, _ => by simp only [Rep] at h; exact h.2
  | .bl _, _, _, h, _ => by simp only [Rep] at h; exact h.2
  | .int _, _, _, h, _ => by simp only [Rep] at h; exact h.2
  | .str _, _, _, h, _ => by simp only [Rep] at h; exact h.2
  | .fn _, _, _, h, _ => by simp only [Rep] at h; exact h.2
  | .ktx _, _, _, h, _ => by simp only [Rep] at h; exact h.2
  | .kti _, _, _, h, _ => by simp only [Rep] at h; exact h.2
  | .dix _ _, _, _, _, f => by simp [D.isFlat] at f
  | .tup l, _, _, h, f => by
    simp only [Rep] at h
    obtain ⟨a, vs, rfl, _, h2⟩ := h
    exact RepL.flat h2 (by simpa only [D.isFlat] using f)
  | .lst _, _, _, _, f => by simp [D.isFlat] at f
  | .scr _, _, _, h, _ => by simp only [Rep] at h; obtain ⟨_, _, _, _, _, e⟩ := h; exact e
  | .dic _ _ _, _, _, _, f => by simp [D.isFlat] at f
  | .obj _ _ _, _, _, _, f => by simp [D.isFlat] at f
theorem RepL.flat {mg : Mg} {H : Hp} : ∀ {ds : List D} {vs : List V} {fp : List Addr}, RepL mg H ds vs fp → D.isFlatL ds = true → fp = []
  | [], _, _, h, _ => by simp only [RepL] at h; exact h.2
  | d :: ds, _, _, h, f => by
    simp only [RepL] at h
    obtain ⟨v, r, f1, f2, rfl, h1, h2, rfl⟩ := h
    simp only [D.isFlatL, Bool.and_eq_true] at f
    rw [Rep.flat h1 f.1, RepL.flat h2 f.2]
    rfl
end
theorem isFlatL_all (l : List D) : D.isFlatL l = l.all D.isFlat := by
  induction l with
  | nil => rfl
  | cons d r ih => simp only [D.isFlatL, List.all_cons, ih]

/-! ### what is known of a result by a look at its tree -/
def eChk (p : D → Bool) (s : Ev) : Ev := fun ρ => (s ρ).filter p
def D.isLst : D → Bool
  | .lst _ => true
  | _ => false
def D.isTup : D → Bool
  | .tup _ => true
  | _ => false
def D.kidsFlat : D → Bool
  | .lst l => D.isFlatL l
  | .dic _ _ l => D.isFlatL l
  | _ => false
section
variable {X : Cx} {LL : List Nat} {Γ : List Kd} {pos : Pos} {e : Expr} {s : Ev}
theorem ex_flat {m : Md} (h : EX X LL Γ e s m) : EX X LL Γ e (eChk D.isFlat s) .flat := by
  obtain ⟨t, p, k⟩ := h
  refine ⟨t, p, fun P g ρ σ H d Q st hs q => ?_⟩
  obtain ⟨h1, h2⟩ := Option.filter_eq_some_iff.mp hs
  refine k P g ρ σ H d Q st h1 fun v H' x w => q v H' x ?_
  cases m with
  | flat => exact w
  | al fr rt L nd =>
    obtain ⟨fp, r, _⟩ := w
    rw [r.flat h2] at r
    exact r
def Md.isNew : Md → Bool
  | .al _ .new _ _ => true
  | _ => false
theorem ex_kids {m : Md} (h : EX X LL Γ e s m) (hm : m.isNew = true := by rfl) : EX X LL Γ e (eChk D.kidsFlat s) (.al false .new [] true) := by
  obtain ⟨fr, L, nd, rfl⟩ : ∃ fr L nd, m = .al fr .new L nd := by
    cases m with
    | flat => cases hm
    | al fr rt L nd =>
      cases rt with
      | new => exact ⟨fr, L, nd, rfl⟩
      | old n => cases hm
      | unk => cases hm
  obtain ⟨t, p, k⟩ := h
  refine ⟨t, p, fun P g ρ σ H d Q st hs q => ?_⟩
  obtain ⟨h1, h2⟩ := Option.filter_eq_some_iff.mp hs
  refine k P g ρ σ H d Q st h1 fun v H' x w => q v H' x ?_
  obtain ⟨fp, r, o⟩ := w
  have key : ∀ a, v = .ref a → fp = [a] → Val X.vm P g H H' (.al false .new [] true) d v := by
    intro a e1 e2
    subst e1; subst e2
    refine ⟨[a], r, fun b hb => ?_, .of (by simp)⟩
    obtain rfl := List.mem_singleton.mp hb
    rcases o.1 b hb with z | ⟨z | z, _⟩
    · exact .inl z
    · exact absurd rfl z
    · cases z
  cases d with
  | lst l =>
    have r0 := r
    simp only [Rep] at r0
    obtain ⟨a, vs, f, rfl, _, r2, rfl⟩ := r0
    exact key a rfl (by rw [r2.flat h2])
  | dic tk ks l =>
    have r0 := r
    simp only [Rep] at r0
    obtain ⟨a, vs, f, rfl, _, r2, rfl⟩ := r0
    exact key a rfl (by rw [r2.flat h2])
  | _ => cases h2
end

/-! ### len, items -/
def dLen : List D → Option D
  | [.lst l] => some (.int l.length)
  | [.scr l] => some (.int l.length)
  | [.tup l] => some (.int l.length)
  | [.str s] => if s.length ≤ sizeLine then some (.int s.length) else none
  | _ => none
def dIdx : List D → Option D
  | [.lst l, .int i] => atI l i
  | [.scr l, .int i] => atI l i
  | [.tup l, .int i] => atI l i
  | [.str s, .int i] => if s.length ≤ sizeLine then (atI s.cps.toList i).map fun c => .str ⟨#[c]⟩ else none
  | _ => none
def Md.child : Md → Md
  | .flat => .flat
  | .al fr rt L nd => if nd then .al fr .unk L true else (Md.al fr rt L nd).unroot
section
variable {X : Cx}
theorem cp_len : CP X (fun xs H Q => ∃ x n, xs = [x] ∧ LenV X.K x H n ∧ Q (.int n) H) dLen toFlat := by
  intro P LL g H H1 m ds vs d Q l x vl e q
  obtain ⟨fp, r⟩ := vl.rep
  unfold dLen at e
  split at e
  · cases e
    obtain ⟨v, rfl, h⟩ := repL1 r
    simp only [Rep] at h
    obtain ⟨a, vs, f, rfl, ha, h2, rfl⟩ := h
    exact ⟨_, _, rfl, .inl ⟨vs, SqL.of ha, rfl⟩, by rw [h2.length]; exact q _ H1 Ext.refl (val_flat rep_int)⟩
  · cases e
    obtain ⟨v, rfl, h⟩ := repL1 r
    simp only [Rep] at h
    obtain ⟨a, vs, rfl, ha, h2, rfl⟩ := h
    exact ⟨_, _, rfl, .inl ⟨vs, ha.sq, rfl⟩, by rw [h2.length]; exact q _ H1 Ext.refl (val_flat rep_int)⟩
  · cases e
    obtain ⟨v, rfl, h⟩ := repL1 r
    simp only [Rep] at h
    obtain ⟨a, vs, rfl, ha, h2⟩ := h
    exact ⟨_, _, rfl, .inr ⟨vs, .inl (.inl ha), rfl⟩, by rw [h2.length]; exact q _ H1 Ext.refl (val_flat rep_int)⟩
  · split at e
    · cases e
      obtain ⟨v, rfl, h⟩ := repL1 r
      obtain rfl := rStr h
      exact ⟨_, _, rfl, ⟨by assumption, rfl⟩, q _ H1 Ext.refl (val_flat rep_int)⟩
    · cases e
  · cases e
theorem val_child {mg : Mg} {P : Fm} {g : Addr → Nat} {H H1 : Hp} {m : Md} {d0 : D} {v0 : V} {d : D} {v : V} (h : Val mg P g H H1 m d0 v0)
    (he : ∀ fp, Rep mg H1 d0 v0 fp → ∃ f1 f f2, Rep mg H1 d v f ∧ ((∃ a, v0 = .ref a ∧ fp = a :: (f1 ++ f ++ f2)) ∨ (fp = f1 ++ f ++ f2 ∧ ∀ a, v0 = .ref a → a ∉ fp))) : Val mg P g H H1 m.child d v := by
  cases m with
  | flat =>
    obtain ⟨f1, f, f2, r, ⟨a, _, e⟩ | ⟨e, _⟩⟩ := he [] h
    · cases e
    · have : f = [] := by
        have := congrArg List.length e
        simp at this
        exact List.eq_nil_of_length_eq_zero (by omega)
      subst this
      exact r
  | al fr rt L nd =>
    obtain ⟨fp, r, o⟩ := h
    obtain ⟨f1, f, f2, rf, hh⟩ := he fp r
    have hs : ∀ a ∈ f, a ∈ fp := fun a ha => by
      rcases hh with ⟨b, _, rfl⟩ | ⟨rfl, _⟩
      · exact List.mem_cons_of_mem _ (List.mem_append_left _ (List.mem_append_right _ ha))
      · exact List.mem_append_left _ (List.mem_append_right _ ha)
    have hn : nd = true → f.Nodup := fun h => by
      have n := o.2.1 h
      rcases hh with ⟨b, _, rfl⟩ | ⟨rfl, _⟩
      · have n := (List.nodup_cons.mp n).2
        exact (List.nodup_append.mp (List.nodup_append.mp n).1).2.1
      · exact (List.nodup_append.mp (List.nodup_append.mp n).1).2.1
    cases nd with
    | true =>
      refine ⟨f, rf, fun a ha => ?_, .unk fun h => hn rfl⟩
      rcases o.1 a (hs a ha) with ⟨e, y⟩ | ⟨_, y⟩
      · exfalso
        rcases hh with ⟨b, e2, rfl⟩ | ⟨_, z⟩
        · rw [e2] at e; cases e
          exact (List.nodup_cons.mp (o.2.1 rfl)).1 (List.mem_append_left _ (List.mem_append_right _ ha))
        · exact z a e (hs a ha)
      · exact .inr ⟨.inr rfl, y⟩
    | false =>
      have q := o.unroot
      show Val mg P g H H1 (Md.al fr rt L false).unroot d v
      cases rt <;> exact ⟨f, rf, fun a ha => .inr ⟨.inr rfl, q.1 a (hs a ha)⟩, .unk fun h => nomatch h⟩
theorem rd_tup {H : Hp} {a : Addr} {xs : List V} (r : Rd H a (.tup xs)) {u : HO} (q : Rd H a u) (h : ∀ o, u ≠ .frz o (.tup xs)) (h' : ∀ ys, u ≠ .tup ys) (h2 : ∀ o w, u ≠ .frz o w) : False := by
  rcases r with r | ⟨o, r⟩ <;> rcases q with q | ⟨o', q⟩ <;> rw [r] at q <;> cases q
  · exact h' _ rfl
  · exact h2 _ _ rfl
  · exact h' _ rfl
mutual
/-- the footprint does not have tuples -/
theorem Rep.notup {mg : Mg} {H : Hp} : ∀ {d : D} {v : V} {fp : List Addr}, Rep mg H d v fp → ∀ {a : Addr} {xs : List V}, Rd H a (.tup xs) → a ∉ fp
  | .non, _, _, h, _, _, _ => by simp only [Rep] at h; rw [h.2]; simp
  | .bl _, _, _, h, _, _, _ => by simp only [Rep] at h; rw [h.2]; simp
  | .int _, _, _, h, _, _, _ => by simp only [Rep] at h; rw [h.2]; simp
  | .str _, _, _, h, _, _, _ => by simp only [Rep] at h; rw [h.2]; simp
  | .fn _, _, _, h, _, _, _ => by simp only [Rep] at h; rw [h.2]; simp
  | .ktx _, _, _, h, _, _, _ => by simp only [Rep] at h; rw [h.2]; simp
  | .kti _, _, _, h, _, _, _ => by simp only [Rep] at h; rw [h.2]; simp
  | .dix ks ds, _, _, h, _, _, r => by
    simp only [Rep] at h
    obtain ⟨b, xs, rfl, ⟨e, _⟩, _, _, rfl⟩ := h
    intro hm
    obtain rfl := List.mem_singleton.mp hm
    exact rd_tup r e (fun _ z => nomatch z) (fun _ z => nomatch z) (fun _ _ z => nomatch z)
  | .tup ds, _, _, h, _, _, r => by
    simp only [Rep] at h
    obtain ⟨_, vs, rfl, _, h2⟩ := h
    exact RepL.notup h2 r
  | .lst ds, _, _, h, _, _, r => by
    simp only [Rep] at h
    obtain ⟨b, vs, f, rfl, e, h2, rfl⟩ := h
    intro hm
    rcases List.mem_cons.mp hm with rfl | hm
    · exact rd_tup r (.inl e) (fun _ z => nomatch z) (fun _ z => nomatch z) (fun _ _ z => nomatch z)
    · exact RepL.notup h2 r hm
  | .scr ds, _, _, h, a, _, r => by
    simp only [Rep] at h
    obtain ⟨b, vs, rfl, e, h2, rfl⟩ := h
    simp
  | .dic tk ks ds, _, _, h, _, _, r => by
    simp only [Rep] at h
    obtain ⟨b, vs, f, rfl, ⟨_, e⟩, h2, rfl⟩ := h
    intro hm
    rcases List.mem_cons.mp hm with rfl | hm
    · cases tk <;> obtain ⟨_, _, e⟩ := e
      · exact rd_tup r e (fun _ z => nomatch z) (fun _ z => nomatch z) (fun _ _ z => nomatch z)
      · exact rd_tup r e (fun _ z => nomatch z) (fun _ z => nomatch z) (fun _ _ z => nomatch z)
    · exact RepL.notup h2 r hm
  | .obj c ns ds, _, _, h, _, _, r => by
    simp only [Rep] at h
    obtain ⟨b, C, dx, vs, f, rfl, _, _, e, h2, rfl⟩ := h
    intro hm
    rcases List.mem_cons.mp hm with rfl | hm
    · exact rd_tup r (.inl e) (fun _ z => nomatch z) (fun _ z => nomatch z) (fun _ _ z => nomatch z)
    · exact RepL.notup h2 r hm
theorem RepL.notup {mg : Mg} {H : Hp} : ∀ {ds : List D} {vs : List V} {fp : List Addr}, RepL mg H ds vs fp → ∀ {a : Addr} {xs : List V}, Rd H a (.tup xs) → a ∉ fp
  | [], _, _, h, _, _, _ => by simp only [RepL] at h; rw [h.2]; simp
  | d :: ds, _, _, h, _, _, r => by
    simp only [RepL] at h
    obtain ⟨v, r', f1, f2, rfl, h1, h2, rfl⟩ := h
    intro hm
    rcases List.mem_append.mp hm with hm | hm
    · exact Rep.notup h1 r hm
    · exact RepL.notup h2 r hm
end
theorem dIdx_child {mg : Mg} {P : Fm} {g : Addr → Nat} {H H1 : Hp} {K : PySem.W.Frag} {m : Md} {d0 d : D} {i : Int} {v0 : V} {Q : VK} (hK : mg.K = K) (h : Val mg P g H H1 m d0 v0) (e : dIdx [d0, .int i] = some d)
    (q : ∀ v, Val mg P g H H1 m.child d v → Q v H1) : rIx K v0 (.int i) H1 Q := by
  have get : ∀ (l : List D) (us : List V) (f : List Addr), atI l i = some d → RepL mg H1 l us f → ∃ z g1 g2 g3, atI us i = some z ∧ Rep mg H1 d z g2 ∧ f = g1 ++ g2 ++ g3 := fun l us f e r => by
    unfold atI at e
    obtain ⟨j, e1, e2⟩ := bind_some e
    obtain ⟨z, g1, g2, g3, e3, rz, rfl⟩ := r.get e2
    exact ⟨z, g1, g2, g3, by unfold atI; rw [r.length, e1]; exact e3, rz, rfl⟩
  have some_fp : ∃ fp, Rep mg H1 d0 v0 fp := let ⟨fp, r, _⟩ := h.unroot; ⟨fp, r⟩
  obtain ⟨fp0, r0⟩ := some_fp
  cases d0 with
  | lst l =>
    have e : atI l i = some d := e
    simp only [Rep] at r0
    obtain ⟨a, us, f, rfl, ha, h3, rfl⟩ := r0
    obtain ⟨z, g1, g2, g3, e3, rz, rfl⟩ := get l us _ e h3
    refine .inl ⟨a, us, _, z, rfl, rfl, SqL.of ha, e3, q _ (val_child h fun fp r => ?_)⟩
    simp only [Rep] at r
    obtain ⟨b, us', f', eb, hb, h3', rfl⟩ := r
    cases eb
    rw [ha] at hb; cases hb
    obtain ⟨z', k1, k2, k3, e3', rz', rfl⟩ := get l us _ e h3'
    rw [e3] at e3'; cases e3'
    exact ⟨k1, k2, k3, rz', .inl ⟨a, rfl, rfl⟩⟩
  | scr l =>
    have e : atI l i = some d := e
    simp only [Rep] at r0
    obtain ⟨a, us, rfl, ha, h3, rfl⟩ := r0
    obtain ⟨z, g1, g2, g3, e3, rz, e4⟩ := get l us _ e h3
    have e5 : g2 = [] := by
      have := congrArg List.length e4
      simp at this
      exact List.eq_nil_of_length_eq_zero (by omega)
    subst e5
    refine .inl ⟨a, us, _, z, rfl, rfl, hK ▸ ha.sq, e3, q _ (val_child h fun fp r => ?_)⟩
    simp only [Rep] at r
    obtain ⟨b, us', eb, hb, h3', rfl⟩ := r
    exact ⟨[], [], [], rz, .inr ⟨rfl, fun a' ea => nofun⟩⟩
  | tup l =>
    have e : atI l i = some d := e
    simp only [Rep] at r0
    obtain ⟨a, us, rfl, ha, h3⟩ := r0
    obtain ⟨z, g1, g2, g3, e3, rz, rfl⟩ := get l us _ e h3
    refine .inr (.inl ⟨a, us, _, z, rfl, rfl, .inl (.inl ha), e3, q _ (val_child h fun fp r => ?_)⟩)
    have r1 := r
    simp only [Rep] at r
    obtain ⟨b, us', eb, hb, h3'⟩ := r
    cases eb
    have eus : us' = us := by
      rw [ha] at hb; cases hb; rfl
    subst eus
    obtain ⟨z', k1, k2, k3, e3', rz', rfl⟩ := get l us' _ e h3'
    rw [e3] at e3'; cases e3'
    exact ⟨k1, k2, k3, rz', .inr ⟨rfl, fun a' ea => by cases ea; exact r1.notup (.inl ha)⟩⟩
  | str s =>
    unfold dIdx at e
    simp only at e
    split at e
    · obtain ⟨c, e1, rfl⟩ := Option.map_eq_some_iff.mp e
      obtain rfl := rStr r0
      refine .inr (.inr ⟨_, _, c, rfl, rfl, by assumption, e1, q _ (val_child h fun fp r => ?_)⟩)
      simp only [Rep] at r
      exact ⟨[], [], [], rep_str, .inr ⟨r.2, fun a' ea => nomatch ea⟩⟩
    · cases e
  | _ => cases e
end
section
variable {X : Cx} {LL : List Nat} {Γ : List Kd} {pos : Pos} {a b : Expr} {sa sb : Ev} {ma mb : Md}
theorem dIdx_int {d0 x d : D} (e : dIdx [d0, x] = some d) : ∃ i, x = .int i := by
  unfold dIdx at e
  split at e <;> first | (rename_i h; cases h; exact ⟨_, rfl⟩) | cases e
theorem ex_idx (ha : EX X LL Γ a sa ma) (hb : EX X LL Γ b sb mb) (hs : PlainIx b := by exact fun _ _ => rfl) : EX X LL Γ (.Subscript a b pos) (eP dIdx (aCons sa (aCons sb aNil))) ma.child := by
  obtain ⟨ta, tb, pa, pb, k⟩ := two ha hb
  refine ⟨_, pe_ix ix_seq pa pb hs, fun P g ρ σ H d Q s e q => ?_⟩
  obtain ⟨ds, e1, e⟩ := bind_some e
  refine k P g ρ σ H ds _ s e1 fun d1 d2 v w H' eds x va vb vl => ?_
  subst eds
  obtain ⟨i, rfl⟩ := dIdx_int e
  obtain ⟨fp, rw', _⟩ := vb.unroot
  obtain rfl := rInt rw'
  exact dIdx_child rfl va e fun v2 w2 => q v2 H' x w2
end
end VV

/-! ## VEq -/
namespace VV
open PySem PySem.Spec PyProof.Rows L2
mutual
def D.toP : D → PyData
  | .non => .none
  | .bl b => .bool b
  | .int i => .int i
  | .str s => .str s
  | .tup l => .tuple (D.toPL l)
  | .lst l => .list (D.toPL l)
  | .scr l => .list (D.toPL l)
  | .kti l => .tuple (l.map PyData.int)
  | _ => .dict []
def D.toPL : List D → List PyData
  | [] => []
  | d :: r => d.toP :: D.toPL r
end
theorem dpAll_nums {K : PySem.W.Frag} {H : Hp} : ∀ ns : List Int, DpAll K H (ns.map V.int) (ns.map PyData.int)
  | [] => .nil
  | a :: r => .cons (.int a) (dpAll_nums r)
mutual
theorem Rep.dp {mg : Mg} {H : Hp} : ∀ {d : D} {v : V} {fp : List Addr}, Rep mg H d v fp → d.toP.canLay0 = true → Dp mg.K H v d.toP
  | .non, _, _, h, _ => by simp only [Rep] at h; rw [h.1]; exact .non
  | .bl b, _, _, h, _ => by simp only [Rep] at h; rw [h.1]; exact .bl b
  | .int i, _, _, h, _ => by simp only [Rep] at h; rw [h.1]; exact .int i
  | .str s, _, _, h, _ => by simp only [Rep] at h; rw [h.1]; exact .str s
  | .tup l, _, _, h, c => by
    simp only [Rep] at h
    obtain ⟨a, vs, rfl, r, h2⟩ := h
    simp only [D.toP, PyData.canLay0] at c ⊢
    exact .tup (.inl (.inl r)) (RepL.dp h2 c)
  | .lst l, _, _, h, c => by
    simp only [Rep] at h
    obtain ⟨a, vs, f, rfl, r, h2, _⟩ := h
    simp only [D.toP, PyData.canLay0] at c ⊢
    exact .lst (SqL.of r) (RepL.dp h2 c)
  | .scr l, _, _, h, c => by
    simp only [Rep] at h
    obtain ⟨a, vs, rfl, r, h2, _⟩ := h
    simp only [D.toP, PyData.canLay0] at c ⊢
    exact .lst r.sq (RepL.dp h2 c)
  | .dic _ _ _, _, _, _, c => by simp [D.toP, PyData.canLay0] at c
  | .obj _ _ _, _, _, _, c => by simp [D.toP, PyData.canLay0] at c
  | .fn _, _, _, _, c => by simp [D.toP, PyData.canLay0] at c
  | .ktx _, _, _, _, c => by simp [D.toP, PyData.canLay0] at c
  | .kti l, _, _, h, _ => by
    simp only [Rep] at h
    obtain ⟨⟨a, o, rfl, r, _⟩, _⟩ := h
    simp only [D.toP]
    exact .tup (.inl (.inr ⟨o, r⟩)) (dpAll_nums l)
  | .dix _ _, _, _, _, c => by simp [D.toP, PyData.canLay0] at c
theorem RepL.dp {mg : Mg} {H : Hp} : ∀ {ds : List D} {vs : List V} {fp : List Addr}, RepL mg H ds vs fp → PyData.canLayAll0 (D.toPL ds) = true → DpAll mg.K H vs (D.toPL ds)
  | [], _, _, h, _ => by simp only [RepL] at h; rw [h.1]; exact .nil
  | d :: ds, _, _, h, c => by
    simp only [RepL] at h
    obtain ⟨v, r, f1, f2, rfl, h1, h2, _⟩ := h
    simp only [D.toPL, PyData.canLayAll0, Bool.and_eq_true] at c ⊢
    exact .cons (Rep.dp h1 c.1) (RepL.dp h2 c.2)
end
def D.eqv (a b : D) : Bool := PyData.eqv a.toP b.toP
def D.shd (a : D) : Bool := SeqAt.shaped a.toP
def dEq : List D → Option D
  | [a, b] => if a.shd && b.shd then some (.bl (a.eqv b)) else none
  | _ => none
def dNe : List D → Option D
  | [a, b] => if a.shd && b.shd then some (.bl (!a.eqv b)) else none
  | _ => none
section
variable {X : Cx}
theorem cp_eq : CP X (r2 (rEqD X.K)) dEq toFlat := by
  intro P LL g H H1 m ds vs d Q l x vl e q
  obtain ⟨fp, r⟩ := vl.rep
  unfold dEq at e
  split at e
  · split at e
    · cases e
      rename_i h
      rw [Bool.and_eq_true] at h
      obtain ⟨v, w, f1, f2, rfl, h1, h2, _⟩ := repL2 r
      exact ⟨v, w, rfl, _, _, h1.dp (SeqAt.canLay_of_shaped h.1), h2.dp (SeqAt.canLay_of_shaped h.2), h.1, h.2, q _ H1 Ext.refl (val_flat rep_bl)⟩
    · cases e
  · cases e
theorem cp_ne : CP X (r2 (rNeD X.K)) dNe toFlat := by
  intro P LL g H H1 m ds vs d Q l x vl e q
  obtain ⟨fp, r⟩ := vl.rep
  unfold dNe at e
  split at e
  · split at e
    · cases e
      rename_i h
      rw [Bool.and_eq_true] at h
      obtain ⟨v, w, f1, f2, rfl, h1, h2, _⟩ := repL2 r
      exact ⟨v, w, rfl, _, _, h1.dp (SeqAt.canLay_of_shaped h.1), h2.dp (SeqAt.canLay_of_shaped h.2), h.1, h.2, q _ H1 Ext.refl (val_flat rep_bl)⟩
    · cases e
  · cases e
def D.isNon : D → Bool
  | .non => true
  | _ => false
def dIsN : List D → Option D
  | [d, .non] => some (.bl d.isNon)
  | _ => none
theorem rep_non_iff {mg : Mg} {H : Hp} {d : D} {v : V} {fp : List Addr} (h : Rep mg H d v fp) : decide (v = .non) = d.isNon := by
  cases d <;> simp only [Rep] at h
  case non => rw [h.1]; rfl
  case ktx => obtain ⟨⟨_, rfl, _⟩, _⟩ := h; simp [D.isNon]
  case kti => obtain ⟨⟨_, _, rfl, _⟩, _⟩ := h; simp [D.isNon]
  case dix => obtain ⟨_, _, rfl, _⟩ := h; simp [D.isNon]
  case bl => rw [h.1]; rfl
  case int => rw [h.1]; rfl
  case str => rw [h.1]; rfl
  case fn => obtain ⟨⟨a, rfl, _⟩, _⟩ := h; rfl
  case tup => obtain ⟨a, _, rfl, _⟩ := h; rfl
  case lst => obtain ⟨a, _, _, rfl, _⟩ := h; rfl
  case scr => obtain ⟨a, _, rfl, _⟩ := h; rfl
  case dic => obtain ⟨a, _, _, rfl, _⟩ := h; rfl
  case obj => obtain ⟨a, _, _, _, _, rfl, _⟩ := h; rfl
theorem cp_isN : CP X (r2 (fun x y H Q => y = .non ∧ Q (.bl (decide (x = .non))) H)) dIsN toFlat := by
  intro P LL g H H1 m ds vs d Q l x vl e q
  obtain ⟨fp, r⟩ := vl.rep
  unfold dIsN at e
  split at e
  · obtain ⟨v, w, f1, f2, rfl, h1, h2, _⟩ := repL2 r
    refine ⟨v, w, rfl, rNon h2, ?_⟩
    rw [rep_non_iff h1]
    cases e
    exact q _ H1 Ext.refl (val_flat rep_bl)
  · cases e
end
section
variable {X : Cx} {LL : List Nat} {Γ : List Kd} {pos : Pos} {a b : Expr} {sa sb : Ev} {ma mb : Md}
theorem ex_eq (hu : X.A.units + 64 < cLine) (ha : EX X LL Γ a sa ma) (hb : EX X LL Γ b sb mb) : EX X LL Γ (.Compare a [.Eq] [b] pos) (eP dEq (aCons sa (aCons sb aNil))) .flat := ex_cmp (op_eqD hu) cp_eq ha hb (nomark _)
theorem et_ne (hu : X.A.units + 64 < cLine) (ha : EX X LL Γ a sa ma) (hb : EX X LL Γ b sb mb) : ET X LL Γ (.Compare a [.NotEq] [b] pos) (tOf (eP dNe (aCons sa (aCons sb aNil)))) := et_cmp (op_neD hu) cp_ne ha hb (nomark _)
theorem et_isN (ha : EX X LL Γ a sa ma) (hb : EX X LL Γ b sb mb) : ET X LL Γ (.Compare a [.Is] [b] pos) (tOf (eP dIsN (aCons sa (aCons sb aNil)))) := et_cmp op_isN cp_isN ha hb (nomark _)
end
end VV

/-! ## VStmt -/
namespace VV
open PySem PySem.Spec PyProof.Rows L2

inductive Out where
  | nx (ρ : List D) | ct (ρ : List D) | rt (d : D) | ex (c : Str) (ρ : List D)
/-- what a def hands back -/
inductive Rm where
  | flat | fresh | out
  /-- new things, perhaps the same more than once -/
  | news
  /-- new things and an argument's, no node twice -/
  | outN
  deriving DecidableEq
inductive Res where
  | ret (d : D) | exn (c : Str)

structure Step (LL : List Nat) (g : Addr → Nat) (H : Hp) (g' : Addr → Nat) (H' : Hp) : Prop where
  kp : ∀ a, lk LL (g a) → ∀ u, H a = some u → H' a = some u
  lk : ∀ a, H a ≠ none → lk LL (g a) → g' a = g a
  th : ∀ a, H a ≠ none → H' a ≠ none
theorem Step.refl {LL : List Nat} {g : Addr → Nat} {H : Hp} : Step LL g H g H := ⟨fun _ _ _ h => h, fun _ _ _ => rfl, fun _ h => h⟩
theorem Step.trans {LL : List Nat} {g g1 g2 : Addr → Nat} {H H1 H2 : Hp} (a : Step LL g H g1 H1) (b : Step LL g1 H1 g2 H2) : Step LL g H g2 H2 where
  kp c h u e := b.kp c (by rw [a.lk c (by rw [e]; simp) h]; exact h) u (a.kp c h u e)
  lk c e h := (b.lk c (a.th c e) (by rw [a.lk c e h]; exact h)).trans (a.lk c e h)
  th c e := b.th c (a.th c e)
theorem Step.ext {LL : List Nat} {g : Addr → Nat} {H H' : Hp} (e : Ext H H') : Step LL g H g H' := ⟨fun a _ u h => e a u h, fun _ _ _ => rfl, fun a h z => h (e.nope z)⟩

def RV (mg : Mg) (P : Fm) (g : Addr → Nat) (H : Hp) : Rm → D → V → Prop
  | .flat, d, v => Rep mg H d v []
  | .fresh, d, v => ∃ fp, Rep mg H d v fp ∧ fp.Nodup ∧ ∀ a ∈ fp, g a ≠ 0
  | .out, d, v => ∃ fp, Rep mg H d v fp ∧ ∀ a ∈ fp, g a ≠ 0 ∨ P.out a
  | .news, d, v => ∃ fp, Rep mg H d v fp ∧ ∀ a ∈ fp, g a ≠ 0
  | .outN, d, v => ∃ fp, Rep mg H d v fp ∧ fp.Nodup ∧ ∀ a ∈ fp, g a ≠ 0 ∨ P.out a

/-- what is fixed through a def's body: the locked labels, what it returns, what stands at a continue and at an exception -/
structure Sc where
  LL : List Nat
  R : Rm
  Γc : List Kd
  Γx : List Kd

def WantS (X : Cx) (W : L2.WX) (sc : Sc) (P : Fm) (Γ' : List Kd) (g : Addr → Nat) (H : Hp) (D : Ends) : Out → Prop
  | .nx ρ' => ∀ g' σ' H', Step sc.LL g H g' H' → Sta X.vm P sc.LL Γ' g' ρ' σ' H' → D.nx σ' H'
  | .ct ρ' => ∀ g' σ' H', Step sc.LL g H g' H' → Sta X.vm P sc.LL sc.Γc g' ρ' σ' H' → D.ct σ' H'
  | .rt d => ∀ v g' H', Step sc.LL g H g' H' → Loc P sc.LL g' H' → RV X.vm P g' H' sc.R d v → D.rt v H'
  | .ex c ρ' => ∀ C g' σ' H', X.mg c = some (.ref C) → Step sc.LL g H g' H' → Sta X.vm P sc.LL sc.Γx g' ρ' σ' H' → W (.ref C) none σ' H'

abbrev Sv := List D → Option Out
def SX (X : Cx) (W : L2.WX) (sc : Sc) (Γ : List Kd) (st : Stmt) (sem : Sv) (Γ' : List Kd) : Prop :=
  ∃ t, PS X st t ∧ ∀ P g ρ σ H o D, Sta X.vm P sc.LL Γ g ρ σ H → sem ρ = some o → WantS X W sc P Γ' g H D o → t D σ H
def SS (X : Cx) (W : L2.WX) (sc : Sc) (Γ : List Kd) (st : List Stmt) (sem : Sv) (Γ' : List Kd) : Prop :=
  ∃ t, PSs X st t ∧ ∀ P g ρ σ H o D, Sta X.vm P sc.LL Γ g ρ σ H → sem ρ = some o → WantS X W sc P Γ' g H D o → t D σ H

def sNil : Sv := fun ρ => some (.nx ρ)
def sSeq (a b : Sv) : Sv := fun ρ => match a ρ with
  | some (.nx ρ') => b ρ'
  | o => o
def sPass : Sv := fun ρ => some (.nx ρ)
def sCont : Sv := fun ρ => some (.ct ρ)
def sRet (e : Ev) : Sv := fun ρ => do some (.rt (← e ρ))
def sSet (i : Nat) (e : Ev) : Sv := fun ρ => do some (.nx (ρ.set i (← e ρ)))
def sIf (c : List D → Option Bool) (a b : Sv) : Sv := fun ρ => do if (← c ρ) then a ρ else b ρ

theorem WantS.from {X : Cx} {W : L2.WX} {sc : Sc} {P : Fm} {Γ' : List Kd} {g g1 : Addr → Nat} {H H1 : Hp} {D : Ends} {o : Out} (h : WantS X W sc P Γ' g H D o) (s : Step sc.LL g H g1 H1) : WantS X W sc P Γ' g1 H1 D o := by
  cases o with
  | nx ρ' => exact fun g' σ' H' s' st => h g' σ' H' (s.trans s') st
  | ct ρ' => exact fun g' σ' H' s' st => h g' σ' H' (s.trans s') st
  | rt d => exact fun v g' H' s' l r => h v g' H' (s.trans s') l r
  | ex c ρ' => exact fun C g' σ' H' m s' st => h C g' σ' H' m (s.trans s') st

section
variable {X : Cx} {W : L2.WX} {sc : Sc} {Γ Γ' Γ1 : List Kd} {pos : Pos}
theorem ss_nil : SS X W sc Γ [] sNil Γ := ⟨_, pss_nil, fun P g ρ σ H o D s e w => by cases e; exact w g σ H .refl s⟩
theorem ss_cons {st : Stmt} {rest : List Stmt} {a b : Sv} (h : SX X W sc Γ st a Γ1) (h' : SS X W sc Γ1 rest b Γ') : SS X W sc Γ (st :: rest) (sSeq a b) Γ' := by
  obtain ⟨t, p, k⟩ := h
  obtain ⟨u, p', k'⟩ := h'
  refine ⟨_, pss_cons p p', fun P g ρ σ H o D s e w => ?_⟩
  unfold sSeq at e
  cases ea : a ρ with
  | none => rw [ea] at e; cases e
  | some o1 =>
    rw [ea] at e
    cases o1 with
    | nx ρ' => exact k P g ρ σ H _ { D with nx := u D } s ea fun g' σ' H' s' st => k' P g' ρ' σ' H' o D st e (w.from s')
    | ct ρ' => cases e; exact k P g ρ σ H _ { D with nx := u D } s ea w
    | rt d => cases e; exact k P g ρ σ H _ { D with nx := u D } s ea w
    | ex c ρ' => cases e; exact k P g ρ σ H _ { D with nx := u D } s ea w
theorem ss_one {st : Stmt} {a : Sv} (h : SX X W sc Γ st a Γ') : SS X W sc Γ [st] a Γ' := by
  obtain ⟨t, p, k⟩ := h
  exact ⟨_, pss_one p, k⟩

/-! ### labels for what is new -/
open Classical in
noncomputable def relab (g : Addr → Nat) (H H' : Hp) (v : V) (n m : Nat) : Addr → Nat := fun a => if New H H' a then (if v = .ref a then n else m) else g a
theorem relab_new {g : Addr → Nat} {H H' : Hp} {v : V} {n m : Nat} {a : Addr} (h : New H H' a) : relab g H H' v n m a = if v = .ref a then n else m := by
  unfold relab; rw [if_pos h]
theorem relab_old {g : Addr → Nat} {H H' : Hp} {v : V} {n m : Nat} {a : Addr} (h : H a ≠ none) : relab g H H' v n m a = g a := by
  unfold relab; rw [if_neg fun z => h z.1]
section
variable {mg : Mg} {P : Fm} {LL : List Nat} {g : Addr → Nat} {ρ : List D} {σ : L2.St} {H H' : Hp} {v : V} {n m : Nat}
theorem Old.relab {L : List Nat} {a : Addr} (o : Old P g L a) (l : Loc P LL g H) : Old P (relab g H H' v n m) L a := by
  unfold Old
  rw [relab_old (o.there l)]
  exact o
theorem Loc.relab (l : Loc P LL g H) (e : Ext H H') : Loc P LL (relab g H H' v n m) H' := by
  refine ⟨fun a h => ?_, (l.ext e).out, fun a h => ?_⟩
  rotate_left
  · have := l.fz a h
    obtain ⟨⟨o, u, q⟩, this2⟩ := this
    exact ⟨⟨o, u, e a _ q⟩, by rw [relab_old (by rw [q]; simp)]; exact this2⟩
  by_cases hn : New H H' a
  · obtain ⟨h1, h2⟩ := hn
    cases q : H' a with
    | none => rw [q] at h2; exact h2.elim
    | some o => rw [q] at h2; exact ⟨o, rfl, .inl h2⟩
  · by_cases h0 : H a = none
    · unfold VV.relab at h
      rw [if_neg hn] at h
      obtain ⟨o, e1, _⟩ := l.at_ a h
      rw [h0] at e1; cases e1
    · rw [relab_old h0] at h
      exact (l.ext e).at_ a h
theorem CellOk.relab {k : Kd} {d : D} {ov : Option V} (c : CellOk mg P g H k d ov) (l : Loc P LL g H) (e : Ext H H') : CellOk mg P (relab g H H' v n m) H' k d ov := by
  induction k generalizing d ov with
  | dead => trivial
  | pr p k1 k2 i1 i2 =>
    obtain ⟨a, d1, d2, v1, v2, e0, e1, r, o, c1, c2⟩ := c
    exact ⟨a, d1, d2, v1, v2, e0, e1, e a _ r, o.relab l, i1 c1, i2 c2⟩
  | ow fl n' L =>
    obtain ⟨a, f, e0, r, nd, o1, o2, o3⟩ := c
    exact ⟨a, f, e0, r.ext e, nd, o1.relab l, fun x hx => (o2 x hx).relab l, o3⟩
  | exc _ _ => exact c
  | ob m Ls =>
    obtain ⟨b, C, dx, c, ns, vs, ds, fps, rfl, rfl, hc, hl, r, ob, rs, fs, nd⟩ := c
    exact ⟨b, C, dx, c, ns, vs, ds, fps, rfl, rfl, hc, hl, e b _ r, ⟨ob.1.relab l, ob.2⟩, rs.mono fun d v f h => h.ext e, fs.mono fun b L h => h.relab l, nd⟩
  | dk fl n' l' L =>
    obtain ⟨a, b, F, e0, r, o1, o2, o3, o4⟩ := c
    exact ⟨a, b, F, e0, r.ext e, o1.relab l, o2.relab l, fun x hx => (o3 x hx).relab l, o4⟩
  | flat => obtain ⟨v, rfl, r⟩ := c; exact ⟨v, rfl, r.ext e⟩
  | lab rt L nd =>
    obtain ⟨w, fp, rfl, r, o, z⟩ := c
    refine ⟨w, fp, rfl, r.ext e, fun a ha => ?_, z⟩
    rcases o a ha with ⟨x, k, y, o'⟩ | ⟨x, o'⟩
    · exact .inl ⟨x, k, y, o'.relab l⟩
    · exact .inr ⟨x, o'.relab l⟩
theorem Cells.relab (l : Loc P LL g H) (e : Ext H H') : ∀ {Γ : List Kd} {ρ : List D} {σ : L2.St}, Cells mg P g H Γ ρ σ → Cells mg P (relab g H H' v n m) H' Γ ρ σ
  | [], [], [], _ => trivial
  | _ :: _, _ :: _, _ :: _, h => ⟨h.1.relab l e, Cells.relab l e h.2⟩
  | [], _ :: _, _, h => h.elim
  | [], [], _ :: _, h => h.elim
  | _ :: _, [], _, h => h.elim
  | _ :: _, _ :: _, [], h => h.elim
theorem Sta.relab {Γ : List Kd} (s : Sta mg P LL Γ g ρ σ H) (e : Ext H H') : Sta mg P LL Γ (relab g H H' v n m) ρ σ H' := ⟨s.loc.relab e, s.cells.relab s.loc e⟩
theorem Step.relab (e : Ext H H') : Step LL g H (relab g H H' v n m) H' := ⟨fun a _ u h => e a u h, fun a h x => relab_old h, fun a h z => h (e.nope z)⟩
end
/-- the kind of a slot that holds a result -/
def Md.kind (n m : Nat) : Md → Kd
  | .flat => .flat
  | .al fr rt L nd => .lab (match rt with | .new => some n | .old k => some k | .unk => none) (if fr then (match rt with | .unk => n :: m :: L | _ => m :: L) else L) nd
theorem Val.cell {mg : Mg} {P : Fm} {LL : List Nat} {g : Addr → Nat} {H H' : Hp} {m : Md} {d : D} {v : V} {n k : Nat} (h : Val mg P g H H' m d v) (l : Loc P LL g H) (h1 : n ≠ 0) (h2 : k ≠ 0) :
    CellOk mg P (relab g H H' v n k) H' (m.kind n k) d (some v) := by
  cases m with
  | flat => exact ⟨v, rfl, h⟩
  | al fr rt L nd =>
    obtain ⟨fp, r, o, z⟩ := h
    refine ⟨v, fp, rfl, r, fun a ha => ?_, by cases rt <;> exact z⟩
    have newOld : ∀ {K : List Nat}, New H H' a → (v = .ref a → n ∈ K) → (v ≠ .ref a → k ∈ K) → Old P (relab g H H' v n k) K a := fun {K} hn a1 a2 => by
      unfold Old
      rw [relab_new hn]
      split
      · rename_i e; exact ⟨a1 e, fun z => absurd z h1⟩
      · rename_i e; exact ⟨a2 e, fun z => absurd z h2⟩
    rcases o a ha with ⟨e, y⟩ | ⟨e, ⟨f, y⟩ | y⟩
    · cases rt with
      | new => exact .inl ⟨e, n, rfl, newOld y (fun _ => List.mem_cons_self) fun z => absurd e z⟩
      | old q => exact .inl ⟨e, q, rfl, Old.relab y l⟩
      | unk => exact y.elim
    · subst f
      refine .inr ⟨?_, ?_⟩
      · rcases e with e | rfl
        · exact .inl e
        · exact .inr rfl
      · cases rt with
        | new => exact newOld y (fun z => by rcases e with e | e; exact absurd z e; cases e) fun _ => List.mem_cons_self
        | old q => exact newOld y (fun z => by rcases e with e | e; exact absurd z e; cases e) fun _ => List.mem_cons_self
        | unk => exact newOld y (fun _ => List.mem_cons_self) fun _ => List.mem_cons_of_mem _ List.mem_cons_self
    · refine .inr ⟨?_, ?_⟩
      · rcases e with e | rfl
        · exact .inl e
        · exact .inr rfl
      · have y' : Old P (relab g H H' v n k) L a := Old.relab y l
        refine ⟨?_, y'.2⟩
        cases fr with
        | false => exact y'.1
        | true =>
          cases rt with
          | new => exact List.mem_cons_of_mem _ y'.1
          | old q => exact List.mem_cons_of_mem _ y'.1
          | unk => exact List.mem_cons_of_mem _ (List.mem_cons_of_mem _ y'.1)
theorem Cells.set {mg : Mg} {P : Fm} {g : Addr → Nat} {H : Hp} {k : Kd} {d : D} {v : V} : ∀ {Γ : List Kd} {ρ : List D} {σ : L2.St} (i : Nat), Cells mg P g H Γ ρ σ → CellOk mg P g H k d (some v) → Cells mg P g H (Γ.set i k) (ρ.set i d) (σ.set i (some v))
  | [], [], [], _, _, _ => trivial
  | _ :: _, _ :: _, _ :: _, 0, h, c => ⟨c, h.2⟩
  | _ :: _, _ :: _, _ :: _, i + 1, h, c => ⟨h.1, Cells.set i h.2 c⟩
  | [], _ :: _, _, _, h, _ => h.elim
  | [], [], _ :: _, _, h, _ => h.elim
  | _ :: _, [], _, _, h, _ => h.elim
  | _ :: _, _ :: _, [], _, h, _ => h.elim

theorem sx_set {i : Nat} {x : Str} {e : Expr} {se : Ev} {m : Md} {pos' : Pos} (n k : Nat) (hN : X.N.Nodup) (hi : X.N[i]? = some x) (hx : L2.Loc X.env.scope x) (he : EX X sc.LL Γ e se m)
    (hs : swapsWith e (some (.Name x pos')) pos.line X.env = pure false := by rfl) (hf : X.fn x = true ∨ X.env.scope.names.lookup x = some .local := by first | exact .inl rfl | exact .inr rfl | assumption)
    (h1 : n ≠ 0 := by decide) (h2 : k ≠ 0 := by decide) : SX X W sc Γ (.Assign [.Name x pos'] e pos) (sSet i se) (Γ.set i (m.kind n k)) := by
  obtain ⟨t, p, kk⟩ := he
  refine ⟨_, ps_set hN hi hx p hs hf, fun P g ρ σ H o D s e w => ?_⟩
  obtain ⟨d, e1, e⟩ := bind_some e
  cases e
  refine kk P g ρ σ H d _ s e1 fun v H' x vl => ?_
  exact w (relab g H H' v n k) _ H' (.relab x) ⟨s.loc.relab x, Cells.set i (s.cells.relab s.loc x) (vl.cell s.loc h1 h2)⟩

theorem wipe_get (σ : L2.St) (j : Nat) : ∀ vs : List Nat, (wipe σ vs)[j]? = if j ∈ vs then σ[j]?.map (fun _ => none) else σ[j]?
  | [] => by simp [wipe]
  | v :: vs => by
    unfold wipe
    rw [List.getElem?_set, wipe_length, wipe_get σ j vs]
    by_cases e : v = j
    · subst e
      simp only [if_true, List.mem_cons_self]
      by_cases h : v < σ.length
      · simp [h]
      · simp [h]
    · rw [if_neg e]
      have : (j ∈ v :: vs) ↔ j ∈ vs := by simp [Ne.symm e]
      simp only [this]
theorem wipe_set {σ : L2.St} {i : Nat} {x : Option V} {vs : List Nat} (h : i ∈ vs) : wipe (σ.set i x) vs = wipe σ vs := by
  apply List.ext_getElem?
  intro j
  rw [wipe_get, wipe_get, List.getElem?_set]
  by_cases e : i = j
  · subst e
    rw [if_pos h, if_pos h, if_pos rfl]
    by_cases hl : i < σ.length
    · simp [hl]
    · simp [hl]
  · rw [if_neg e]
def Wp (S : List Nat) (σ σ' : L2.St) : Prop := ∀ vs : List Nat, (∀ i ∈ S, i ∈ vs) → wipe σ' vs = wipe σ vs
/-! ### targets -/
abbrev Tv := D → List D → Option (List D)
def EG (X : Cx) (Γ : List Kd) (tg : Expr) (k : Kd) (sem : Tv) (Γ' : List Kd) (S : List Nat) : Prop :=
  ∃ t, PG X tg t ∧ ∀ P LL g ρ σ H d v ρ' (Q : L2.St → Hp → Prop), Sta X.vm P LL Γ g ρ σ H → CellOk X.vm P g H k d (some v) → sem d ρ = some ρ' → (∀ σ', Sta X.vm P LL Γ' g ρ' σ' H → Wp S σ σ' → Q σ' H) → t v σ H Q
def EGs (X : Cx) (Γ : List Kd) (tgs : List Expr) (k : Kd) (sem : List D → List D → Option (List D)) (Γ' : List Kd) (S : List Nat) : Prop :=
  (∀ ds ρ ρ', sem ds ρ = some ρ' → ds.length = tgs.length) ∧ ∃ t, PGs X tgs t ∧ ∀ P LL g ρ σ H (ds : List D) (vs : List V) ρ' (Q : L2.St → Hp → Prop), Sta X.vm P LL Γ g ρ σ H → (∀ (i : Nat) (d : D) (v : V), ds[i]? = some d → vs[i]? = some v → CellOk X.vm P g H k d (some v)) → vs.length = ds.length → sem ds ρ = some ρ' →
    (∀ σ', Sta X.vm P LL Γ' g ρ' σ' H → Wp S σ σ' → Q σ' H) → t vs σ H Q
def gN (i : Nat) : Tv := fun d ρ => some (ρ.set i d)
def gF (t : Tv) : Tv := fun d ρ => if d.isFlat then t d ρ else none
def gT (ts : List D → List D → Option (List D)) : Tv := fun d ρ => match d with
  | .tup l => ts l ρ
  | _ => none
def gsNil : List D → List D → Option (List D) := fun ds ρ => match ds with
  | [] => some ρ
  | _ => none
def gsCons (t : Tv) (ts : List D → List D → Option (List D)) : List D → List D → Option (List D) := fun ds ρ => match ds with
  | d :: r => do ts r (← t d ρ)
  | [] => none
theorem eg_name {i : Nat} {x : Str} {k : Kd} (hN : X.N.Nodup) (hi : X.N[i]? = some x) (hx : L2.Loc X.env.scope x) (hf : X.fn x = true ∨ X.env.scope.names.lookup x = some .local := by first | exact .inl rfl | exact .inr rfl | assumption) : EG X Γ (.Name x pos) k (gN i) (Γ.set i k) [i] :=
  ⟨_, pg_name hN hi hx hf, fun P LL g ρ σ H d v ρ' Q s c e q => by cases e; exact q _ ⟨s.loc, Cells.set i s.cells c⟩ fun vs h => wipe_set (h i List.mem_cons_self)⟩
theorem eg_flat {tg : Expr} {k : Kd} {t : Tv} {S : List Nat} (h : EG X Γ tg .flat t Γ' S) (hk : k.use = true := by decide) : EG X Γ tg k (gF t) Γ' S := by
  obtain ⟨u, p, kk⟩ := h
  refine ⟨u, p, fun P LL g ρ σ H d v ρ' Q s c e q => ?_⟩
  unfold gF at e
  split at e
  · rename_i hfl
    refine kk P LL g ρ σ H d v ρ' Q s ?_ e q
    cases k with
    | dead => cases hk
    | exc _ _ => cases hk
    | ob _ _ => cases hk
    | dk _ _ _ _ => cases hk
    | pr _ _ _ => cases hk
    | ow _ _ _ => cases hk
    | flat => exact c
    | lab rt L nd =>
      obtain ⟨w, fp, ew, r, _⟩ := c
      cases ew
      rw [r.flat hfl] at r
      exact ⟨v, rfl, r⟩
  · cases e
def Kd.tupChild : Kd → Kd
  | .lab _ L nd => .lab none L nd
  | k => k
theorem cell_tup {mg : Mg} {P : Fm} {g : Addr → Nat} {H : Hp} {k : Kd} {ds : List D} {v : V} (c : CellOk mg P g H k (.tup ds) (some v)) (hk : k.use = true) :
    ∃ a vs, v = .ref a ∧ H a = some (.tup vs) ∧ vs.length = ds.length ∧ ∀ (i : Nat) (d : D) (w : V), ds[i]? = some d → vs[i]? = some w → CellOk mg P g H k.tupChild d (some w) := by
  cases k with
  | dead => cases hk
  | exc _ _ => cases hk
  | ob _ _ => cases hk
  | dk _ _ _ _ => cases hk
  | pr _ _ _ => cases hk
  | ow _ _ _ => cases hk
  | flat =>
    obtain ⟨v', e, r⟩ := c
    cases e
    simp only [Rep] at r
    obtain ⟨a, vs, rfl, r1, r2⟩ := r
    refine ⟨a, vs, rfl, r1, r2.length, fun i d w e1 e2 => ?_⟩
    obtain ⟨w', f1, f, f2, e3, r3, e4⟩ := r2.get e1
    rw [e2] at e3; cases e3
    have : f = [] := by
      have := congrArg List.length e4
      simp at this
      exact List.eq_nil_of_length_eq_zero (by omega)
    subst this
    exact ⟨w, rfl, r3⟩
  | lab rt L nd =>
    obtain ⟨v', fp, e, r, o, z⟩ := c
    cases e
    have r0 := r
    simp only [Rep] at r
    obtain ⟨a, vs, rfl, r1, r2⟩ := r
    refine ⟨a, vs, rfl, r1, r2.length, fun i d w e1 e2 => ?_⟩
    obtain ⟨w', f1, f, f2, e3, r3, rfl⟩ := r2.get e1
    rw [e2] at e3; cases e3
    refine ⟨w, f, rfl, r3, fun b hb => ?_, .unk fun hn => ?_⟩
    · rcases o b (List.mem_append_left _ (List.mem_append_right _ hb)) with ⟨x, _⟩ | ⟨_, x⟩
      · cases x
        exact absurd (List.mem_append_left _ (List.mem_append_right _ hb)) (r0.notup (.inl r1))
      · exact .inr ⟨.inr rfl, x⟩
    · exact (List.nodup_append.mp (List.nodup_append.mp (z.1 hn)).1).2.1
theorem egs_nil {k : Kd} : EGs X Γ [] k gsNil Γ [] := by
  refine ⟨fun ds ρ ρ' e => ?_, _, pgs_nil, fun P LL g ρ σ H ds vs ρ' Q s c hl e q => ?_⟩
  · cases ds with
    | nil => rfl
    | cons => cases e
  · cases ds with
    | nil => cases e; exact ⟨List.eq_nil_of_length_eq_zero hl, q σ s fun _ _ => rfl⟩
    | cons => cases e
theorem egs_cons {tg : Expr} {tgs : List Expr} {k : Kd} {t : Tv} {ts : List D → List D → Option (List D)} {S S' : List Nat} (h : EG X Γ tg k t Γ1 S) (h' : EGs X Γ1 tgs k ts Γ' S')
    (hs : (assignEach (tg :: tgs) X.env).map (·.2) = assign tg X.env :: (assignEach tgs X.env).map (·.2) := by rfl) : EGs X Γ (tg :: tgs) k (gsCons t ts) Γ' (S ++ S') := by
  obtain ⟨u, p, kk⟩ := h
  obtain ⟨hl, u', p', kk'⟩ := h'
  refine ⟨fun ds ρ ρ' e => ?_, _, pgs_cons p p' hs, fun P LL g ρ σ H ds vs ρ' Q s c hlen e q => ?_⟩
  · cases ds with
    | nil => cases e
    | cons d r =>
      obtain ⟨ρ1, e1, e2⟩ := bind_some e
      simp [hl r ρ1 ρ' e2]
  · cases ds with
    | nil => cases e
    | cons d r =>
      obtain ⟨ρ1, e1, e2⟩ := bind_some e
      cases vs with
      | nil => cases hlen
      | cons v vr =>
        refine ⟨v, vr, rfl, kk P LL g ρ σ H d v ρ1 _ s (c 0 d v rfl rfl) e1 fun σ' s' w1 => ?_⟩
        exact kk' P LL g ρ1 σ' H r vr ρ' Q s' (fun i d' v' h1 h2 => c (i + 1) d' v' (by simpa using h1) (by simpa using h2)) (by simpa using hlen) e2 fun σ2 s2 w2 => q σ2 s2 fun vs hv =>
          (w2 vs fun i hi => hv i (List.mem_append_right _ hi)).trans (w1 vs fun i hi => hv i (List.mem_append_left _ hi))
theorem eg_tup {es : List Expr} {c : Nat} {k : Kd} {ts : List D → List D → Option (List D)} {S : List Nat} (hc : X.calm = true) (h : EGs X Γ es k.tupChild ts Γ' S) (hk : k.use = true := by decide)
    (hst : (assignEach es X.env).findIdx? (·.1) = none := by rfl) (hn : (assignEach es X.env).length = es.length := by rfl) : EG X Γ (.Tuple es c pos) k (gT ts) Γ' S := by
  obtain ⟨hl, u, p, kk⟩ := h
  refine ⟨_, pg_tup hc p hn hst, fun P LL g ρ σ H d v ρ' Q s cc e q => ?_⟩
  cases d with
  | tup ds =>
    obtain ⟨a, vs, rfl, r, hlen, hcells⟩ := cell_tup cc hk
    exact ⟨a, vs, rfl, .inl (.inl r), by rw [hlen, hl ds ρ ρ' e], kk P LL g ρ σ H ds vs ρ' Q s hcells hlen e q⟩
  | _ => cases e
def sAsg (t : Tv) (e : Ev) : Sv := fun ρ => do some (.nx (← t (← e ρ) ρ))
theorem sx_asg {tg e : Expr} {se : Ev} {t : Tv} {m : Md} {S : List Nat} (n k : Nat) (he : EX X sc.LL Γ e se m) (hg : EG X Γ tg (m.kind n k) t Γ' S) (hs : swapsWithSole [tg] e pos.line X.env = pure false := by rfl) (hw : swappedStores [tg] e X.env = pure none := by rfl)
    (ha : (assignEach [tg] X.env).map (·.2) = [assign tg X.env] := by rfl) (h1 : n ≠ 0 := by decide) (h2 : k ≠ 0 := by decide) : SX X W sc Γ (.Assign [tg] e pos) (sAsg t se) Γ' := by
  obtain ⟨u, p, kk⟩ := he
  obtain ⟨u', p', kk'⟩ := hg
  refine ⟨_, ps_asg p p' hs hw ha, fun P g ρ σ H o D s e w => ?_⟩
  obtain ⟨d, e1, e⟩ := bind_some e
  obtain ⟨ρ', e2, e⟩ := bind_some e
  cases e
  refine kk P g ρ σ H d _ s e1 fun v H' x vl => ?_
  exact kk' P sc.LL (relab g H H' v n k) ρ σ H' d v ρ' D.nx (s.relab x) (vl.cell s.loc h1 h2) e2 fun σ' s' _ => w _ σ' H' (.relab x) s'
theorem sx_if {c : Expr} {a b : List Stmt} {s : List D → Option Bool} {sa sb : Sv} (hc : ET X sc.LL Γ c s) (ha : SS X W sc Γ a sa Γ') (hb : SS X W sc Γ b sb Γ') : SX X W sc Γ (.If c a b pos) (sIf s sa sb) Γ' := by
  obtain ⟨t, p, k⟩ := hc
  obtain ⟨ta, pa, ka⟩ := ha
  obtain ⟨tb, pb, kb⟩ := hb
  refine ⟨_, ps_if p pa pb, fun P g ρ σ H o D st e w => ?_⟩
  obtain ⟨c', e0, e⟩ := bind_some e
  refine k P g ρ σ H c' _ st e0 fun H' x => ?_
  cases c' with
  | true => exact iteT (ka P g ρ σ H' o D (st.ext x) (by simpa using e) (w.from (.ext x)))
  | false => exact iteF (kb P g ρ σ H' o D (st.ext x) (by simpa using e) (w.from (.ext x)))
/-- a result that may be handed back -/
def Md.ret : Md → Rm → Bool
  | .flat, _ => true
  | .al _ _ _ _, .flat => false
  | .al fr rt L nd, .fresh => nd && !L.contains 0 && (match rt with | .old 0 => false | _ => true)
  | .al _ _ _ _, .out => true
  | .al fr rt L nd, .news => !L.contains 0 && (match rt with | .old 0 => false | _ => true)
  | .al _ _ _ nd, .outN => nd
theorem sx_ret {e : Expr} {se : Ev} {m : Md} (he : EX X sc.LL Γ e se m) (hr : m.ret sc.R = true := by rfl) : SX X W sc Γ (.Return (some e) pos) (sRet se) Γ' := by
  obtain ⟨t, p, kk⟩ := he
  refine ⟨_, ps_ret p, fun P g ρ σ H o D s e w => ?_⟩
  obtain ⟨d, e1, e⟩ := bind_some e
  cases e
  refine kk P g ρ σ H d _ s e1 fun v H' x vl => ?_
  refine w v (relab g H H' v 1 1) H' (.relab x) (s.loc.relab x) ?_
  have c := vl.cell (n := 1) (k := 1) s.loc (by decide) (by decide)
  cases m with
  | flat =>
    have r : Rep X.vm H' d v [] := vl
    cases hR : sc.R with
    | flat => exact r
    | fresh => exact ⟨[], r, by simp, fun a ha => nomatch ha⟩
    | out => exact ⟨[], r, fun a ha => nomatch ha⟩
    | news => exact ⟨[], r, fun a ha => nomatch ha⟩
    | outN => exact ⟨[], r, by simp, fun a ha => nomatch ha⟩
  | al fr rt L nd =>
    obtain ⟨fp, r, o, z⟩ := vl
    have lab : ∀ a ∈ fp, New H H' a ∨ (Old P g L a) ∨ (∃ n, rt = .old n ∧ Old P g [n] a) := fun a ha => by
      rcases o a ha with ⟨e, y⟩ | ⟨_, ⟨_, y⟩ | y⟩
      · cases rt with
        | new => exact .inl y
        | old n => exact .inr (.inr ⟨n, rfl, y⟩)
        | unk => exact y.elim
      · exact .inl y
      · exact .inr (.inl y)
    cases hR : sc.R with
    | flat => rw [hR] at hr; cases hr
    | fresh =>
      rw [hR] at hr
      simp only [Md.ret, Bool.and_eq_true] at hr
      obtain ⟨⟨h1, h2⟩, h3⟩ := hr
      refine ⟨fp, r, z.1 h1, fun a ha => ?_⟩
      rcases lab a ha with y | y | ⟨n, rfl, y⟩
      · rw [relab_new y]; split <;> decide
      · rw [relab_old (y.there s.loc)]
        intro e0
        have := y.1
        rw [e0] at this
        simp [this] at h2
      · rw [relab_old (y.there s.loc)]
        intro e0
        have := y.1
        rw [e0] at this
        rw [← List.mem_singleton.mp this] at h3
        cases h3
    | news =>
      rw [hR] at hr
      simp only [Md.ret, Bool.and_eq_true] at hr
      obtain ⟨h2, h3⟩ := hr
      refine ⟨fp, r, fun a ha => ?_⟩
      rcases lab a ha with y | y | ⟨n, rfl, y⟩
      · rw [relab_new y]; split <;> decide
      · rw [relab_old (y.there s.loc)]
        intro e0
        have := y.1
        rw [e0] at this
        simp [this] at h2
      · rw [relab_old (y.there s.loc)]
        intro e0
        have := y.1
        rw [e0] at this
        rw [← List.mem_singleton.mp this] at h3
        cases h3
    | outN =>
      rw [hR] at hr
      refine ⟨fp, r, z.1 hr, fun a ha => ?_⟩
      rcases lab a ha with y | y | ⟨n, rfl, y⟩
      · rw [relab_new y]; exact .inl (by split <;> decide)
      · rw [relab_old (y.there s.loc)]
        by_cases e0 : g a = 0
        · exact .inr (y.2 e0)
        · exact .inl e0
      · rw [relab_old (y.there s.loc)]
        by_cases e0 : g a = 0
        · exact .inr (y.2 e0)
        · exact .inl e0
    | out =>
      refine ⟨fp, r, fun a ha => ?_⟩
      rcases lab a ha with y | y | ⟨n, rfl, y⟩
      · rw [relab_new y]; exact .inl (by split <;> decide)
      · rw [relab_old (y.there s.loc)]
        by_cases e0 : g a = 0
        · exact .inr (y.2 e0)
        · exact .inl e0
      · rw [relab_old (y.there s.loc)]
        by_cases e0 : g a = 0
        · exact .inr (y.2 e0)
        · exact .inl e0
def sRetN : Sv := fun _ => some (.rt .non)
end
end VV

/-! ## VFun -/
namespace VV
open PySem PySem.Spec PyProof.Rows L2

/-! ### fewer things known -/
def reL (m : List (Nat × Nat)) (n : Nat) : Nat := (m.lookup n).getD n
def Kd.le (m : List (Nat × Nat)) : Kd → Kd → Bool
  | _, .dead => true
  | .flat, .flat => true
  | .flat, .lab _ _ _ => true
  | .lab rt L nd, .lab rt' L' nd' => (match rt' with
      | some n => (match rt with | some k => reL m k == n | none => false) && L.all fun x => L'.contains (reL m x)
      | none => (match rt with | some k => L'.contains (reL m k) | none => true) && L.all fun x => L'.contains (reL m x)) && (!nd' || nd)
  | .ob n Ls, .ob n' Ls' => decide (n' = reL m n ∧ Ls' = Ls.map fun L => L.map (reL m))
  | .dk fl n l L, .dk fl' n' l' L' => (fl == fl' && n' == reL m n) && (l' == reL m l && L.all fun x => L'.contains (reL m x))
  | .pr p k1 k2, .pr p' j1 j2 => p' == reL m p && (Kd.le m k1 j1 && Kd.le m k2 j2)
  | .ow fl n L, .ow fl' n' L' => (fl == fl' && n' == reL m n) && L.all fun x => L'.contains (reL m x)
  | _, _ => false
def kdsLe (m : List (Nat × Nat)) : List Kd → List Kd → Bool
  | [], [] => true
  | k :: r, k' :: r' => k.le m k' && kdsLe m r r'
  | _, _ => false
def mapOk (LL : List Nat) (m : List (Nat × Nat)) : Bool := m.all fun p => p.1 != 0 && p.2 != 0 && !LL.contains p.1
section
variable {mg : Mg} {P : Fm} {LL : List Nat} {g : Addr → Nat} {ρ : List D} {σ : L2.St} {H : Hp} {m : List (Nat × Nat)}
theorem lookup_mem {α β : Type} [BEq α] [LawfulBEq α] {l : List (α × β)} {a : α} {b : β} (h : l.lookup a = some b) : (a, b) ∈ l := by
  induction l with
  | nil => cases h
  | cons p r ih =>
    obtain ⟨x, y⟩ := p
    rw [List.lookup_cons] at h
    split at h
    · rename_i e
      cases h
      rw [eq_of_beq e]
      exact List.mem_cons_self
    · exact List.mem_cons_of_mem _ (ih h)
theorem reL_ok (h : mapOk LL m = true) (n : Nat) : (reL m n = 0 ↔ n = 0) ∧ (n ∈ LL → reL m n = n) := by
  unfold reL
  cases e : m.lookup n with
  | none => simp
  | some k =>
    have := List.all_eq_true.mp h _ (lookup_mem e)
    simp only [Bool.and_eq_true, bne_iff_ne, ne_eq, Bool.not_eq_true'] at this
    obtain ⟨⟨h1, h2⟩, h3⟩ := this
    simp only [Option.getD_some]
    refine ⟨⟨fun z => absurd z h2, fun z => absurd z h1⟩, fun hm => ?_⟩
    simp at h3
    exact absurd hm h3
theorem Old.re {L L' : List Nat} {a : Addr} (h : mapOk LL m = true) (o : Old P g L a) (hs : L.all (fun x => L'.contains (reL m x)) = true) : Old P (fun a => reL m (g a)) L' a := by
  refine ⟨?_, fun e => o.2 ((reL_ok h _).1.mp e)⟩
  have := List.all_eq_true.mp hs _ o.1
  simpa using this
theorem FpS.re (h : mapOk LL m = true) : ∀ {fs : List (List Addr)} {Ls : List (List Nat)}, FpS (fun b L => Old P g L b) fs Ls → FpS (fun b L => Old P (fun a => reL m (g a)) L b) fs (Ls.map (·.map (reL m)))
  | [], [], _ => trivial
  | _ :: _, L :: _, k => ⟨fun b hb => (k.1 b hb).re h (by simp [List.all_eq_true]; exact fun x hx => ⟨x, hx, rfl⟩), FpS.re h k.2⟩
  | [], _ :: _, k => k.elim
  | _ :: _, [], k => k.elim
theorem CellOk.re {k k' : Kd} {d : D} {ov : Option V} (h : mapOk LL m = true) (hk : k.le m k' = true) (c : CellOk mg P g H k d ov) : CellOk mg P (fun a => reL m (g a)) H k' d ov := by
  induction k' generalizing k d ov with
  | dead => trivial
  | pr p' j1 j2 i1 i2 =>
    cases k with
    | pr p k1 k2 =>
      simp only [Kd.le, Bool.and_eq_true, beq_iff_eq] at hk
      obtain ⟨rfl, h1, h2⟩ := hk
      obtain ⟨a, d1, d2, v1, v2, e0, e1, r, o, c1, c2⟩ := c
      exact ⟨a, d1, d2, v1, v2, e0, e1, r, o.re h (by simp), i1 h1 c1, i2 h2 c2⟩
    | flat => cases hk
    | dead => cases hk
    | exc => cases hk
    | lab => cases hk
    | ob => cases hk
    | dk => cases hk
    | ow => cases hk
  | ow fl' n' L' =>
    cases k with
    | ow fl n L =>
      simp only [Kd.le, Bool.and_eq_true, beq_iff_eq] at hk
      obtain ⟨⟨rfl, rfl⟩, hL⟩ := hk
      obtain ⟨a, f, e0, r, nd, o1, o2, o3⟩ := c
      exact ⟨a, f, e0, r, nd, o1.re h (by simp), fun x hx => (o2 x hx).re h hL, o3⟩
    | flat => cases hk
    | dead => cases hk
    | exc => cases hk
    | lab => cases hk
    | ob => cases hk
    | dk => cases hk
    | pr => cases hk
  | flat =>
    cases k with
    | flat => exact c
    | dead => cases hk
    | exc => cases hk
    | lab => cases hk
    | ob => cases hk
    | dk => cases hk
    | pr => cases hk
    | ow => cases hk
  | exc a c => cases k <;> cases hk
  | ob n' Ls' =>
    cases k with
    | ob n Ls =>
      obtain ⟨e1, e2⟩ := of_decide_eq_true hk
      subst e1 e2
      obtain ⟨a, C, dx, c, ns, vs, ds, fps, rfl, rfl, hc, hl, r, o, rs, fs, nd⟩ := c
      exact ⟨a, C, dx, c, ns, vs, ds, fps, rfl, rfl, hc, hl, r, ⟨o.1.re h (by simp), o.2⟩, rs, FpS.re h fs, nd⟩
    | dead => cases hk
    | flat => cases hk
    | exc => cases hk
    | lab => cases hk
    | dk => cases hk
    | pr => cases hk
    | ow => cases hk
  | dk fl' n' l' L' =>
    cases k with
    | dk fl n l L =>
      simp only [Kd.le, Bool.and_eq_true, beq_iff_eq] at hk
      obtain ⟨⟨rfl, rfl⟩, rfl, hL⟩ := hk
      obtain ⟨a, b, F, e0, r, o1, o2, o3, o4⟩ := c
      exact ⟨a, b, F, e0, r, o1.re h (by simp), o2.re h (by simp), fun x hx => (o3 x hx).re h hL, o4⟩
    | dead => cases hk
    | flat => cases hk
    | exc => cases hk
    | lab => cases hk
    | ob => cases hk
    | pr => cases hk
    | ow => cases hk
  | lab rt' L' nd' =>
    cases k with
    | dead => cases hk
    | exc => cases hk
    | ob => cases hk
    | dk => cases hk
    | pr => cases hk
    | ow => cases hk
    | flat =>
      obtain ⟨v, rfl, r⟩ := c
      exact ⟨v, [], rfl, r, (fun a ha => by cases ha), .of List.nodup_nil⟩
    | lab rt L nd =>
      obtain ⟨v, fp, rfl, r, o, z⟩ := c
      simp only [Kd.le, Bool.and_eq_true] at hk
      obtain ⟨hk, hn⟩ := hk
      refine ⟨v, fp, rfl, r, fun a ha => ?_, fun e => z.1 (by subst e; simpa using hn), fun e => z.2 ?_⟩
      rotate_left
      · cases rt' with
        | none => cases e
        | some n =>
          cases rt with
          | none => simp at hk
          | some k => rfl
      cases rt' with
      | some n =>
        cases rt with
        | none => simp at hk
        | some k =>
          simp only [Bool.and_eq_true] at hk
          rcases o a ha with ⟨x, q, e, y⟩ | ⟨x, y⟩
          · cases e
            refine .inl ⟨x, n, rfl, Old.re h y ?_⟩
            simp [eq_of_beq hk.1]
          · refine .inr ⟨?_, Old.re h y hk.2⟩
            rcases x with x | x
            · exact .inl x
            · cases x
      | none =>
        simp only [Bool.and_eq_true] at hk
        rcases o a ha with ⟨x, q, e, y⟩ | ⟨x, y⟩
        · subst e
          refine .inr ⟨.inr rfl, Old.re h y ?_⟩
          have h1 := hk.1
          simp only at h1
          simpa using h1
        · exact .inr ⟨.inr rfl, Old.re h y hk.2⟩
theorem Cells.re (h : mapOk LL m = true) : ∀ {Γ Γ' : List Kd} {ρ : List D} {σ : L2.St}, kdsLe m Γ Γ' = true → Cells mg P g H Γ ρ σ → Cells mg P (fun a => reL m (g a)) H Γ' ρ σ
  | [], [], [], [], _, _ => trivial
  | k :: Γ, k' :: Γ', d :: ρ, v :: σ, hk, c => by
    simp only [kdsLe, Bool.and_eq_true] at hk
    exact ⟨c.1.re h hk.1, Cells.re h hk.2 c.2⟩
  | [], _ :: _, _, _, hk, _ => by cases hk
  | _ :: _, [], _, _, hk, _ => by cases hk
  | [], _, _ :: _, _, _, c => c.elim
  | [], _, [], _ :: _, _, c => c.elim
  | _ :: _, _, [], _, _, c => c.elim
  | _ :: _, _, _ :: _, [], _, c => c.elim
theorem Sta.re {Γ Γ' : List Kd} (h : mapOk LL m = true) (hk : kdsLe m Γ Γ' = true) (s : Sta mg P LL Γ g ρ σ H) : Sta mg P LL Γ' (fun a => reL m (g a)) ρ σ H := by
  refine ⟨⟨fun a ha => ?_, s.loc.out, fun a ha => ?_⟩, s.cells.re h hk⟩
  · exact s.loc.at_ a fun z => ha ((reL_ok h _).1.mpr z)
  · have := s.loc.fz a ha
    refine ⟨this.1, ?_⟩
    rcases this.2 with x | x
    · exact .inl ((reL_ok h _).1.mpr x)
    · right
      show reL m (g a) ∈ LL
      rw [(reL_ok h _).2 x]
      exact x
theorem Step.re (h : mapOk LL m = true) : Step LL g H (fun a => reL m (g a)) H := by
  refine ⟨fun a _ u e => e, fun a _ x => ?_, fun a e => e⟩
  rcases x with x | x
  · show reL m (g a) = g a
    rw [x]
    exact (reL_ok h _).1.mpr rfl
  · exact (reL_ok h _).2 x
end
section
variable {X : Cx} {W : L2.WX} {sc : Sc} {Γ Γ' Γ1 : List Kd} {pos : Pos}
theorem ss_conv {sts : List Stmt} {s : Sv} (m : List (Nat × Nat)) (h : SS X W sc Γ sts s Γ1) (hm : mapOk sc.LL m = true) (hk : kdsLe m Γ1 Γ' = true) : SS X W sc Γ sts s Γ' := by
  obtain ⟨t, p, k⟩ := h
  refine ⟨t, p, fun P g ρ σ H o D st e w => k P g ρ σ H o D st e ?_⟩
  cases o with
  | nx ρ' => exact fun g' σ' H' s' st' => w _ σ' H' (s'.trans (.re hm)) (st'.re hm hk)
  | ct ρ' => exact w
  | rt d => exact w
  | ex c ρ' => exact w
end

/-! ### defs -/
def RF (mg : Mg) (H H' : Hp) (fp : List Addr) : Rm → D → V → Prop
  | .flat, d, v => Rep mg H' d v []
  | .fresh, d, v => ∃ f, Rep mg H' d v f ∧ f.Nodup ∧ ∀ a ∈ f, New H H' a
  | .out, d, v => ∃ f, Rep mg H' d v f ∧ ∀ a ∈ f, New H H' a ∨ a ∈ fp
  | .news, d, v => ∃ f, Rep mg H' d v f ∧ ∀ a ∈ f, New H H' a
  | .outN, d, v => ∃ f, Rep mg H' d v f ∧ f.Nodup ∧ ∀ a ∈ f, New H H' a ∨ a ∈ fp
def sp0 (mg : Mg) (sem : List D → Option Res) (n : Nat) (R : Rm) : Sp := fun vs H Q _ => vs.length = n ∧ ∃ ds fp d, RepL mg H ds vs fp ∧ sem ds = some (.ret d) ∧ ∀ v H', Ext H H' → RF mg H H' fp R d v → Q v H'
def pkOk : List Kd → List D → Bool
  | [], [] => true
  | .flat :: r, d :: ds => d.isFlat && pkOk r ds
  | .lab none [0] false :: r, _ :: ds => pkOk r ds
  | _, _ => false
def fnSem (n : Nat) (pk : List Kd) (s : Sv) : List D → Option Res := fun ds => if pkOk pk ds then
    match s (ds ++ List.replicate (n - ds.length) .non) with
    | some (.nx _) => some (.ret .non)
    | some (.rt d) => some (.ret d)
    | some (.ex c _) => some (.exn c)
    | _ => none
  else none
theorem cells_start {mg : Mg} {H : Hp} {F : List Addr} : ∀ {pk : List Kd} {ds : List D} {vs : List V} {fp : List Addr} (j : Nat), pkOk pk ds = true → RepL mg H ds vs fp → (∀ a ∈ fp, a ∈ F) →
    Cells mg ⟨fun a => a ∈ F, fun _ => False⟩ (fun _ => 0) H (pk ++ List.replicate j .dead) (ds ++ List.replicate j .non) (vs.map some ++ List.replicate j none)
  | [], [], _, _, j, _, h, _ => by
    simp only [RepL] at h
    obtain ⟨rfl, _⟩ := h
    induction j with
    | zero => trivial
    | succ j ih => exact ⟨trivial, ih⟩
  | .flat :: pk, d :: ds, _, _, j, e, h, hf => by
    simp only [RepL] at h
    obtain ⟨v, r, f1, f2, rfl, h1, h2, rfl⟩ := h
    simp only [pkOk, Bool.and_eq_true] at e
    refine ⟨⟨v, rfl, ?_⟩, cells_start j e.2 h2 fun a ha => hf a (List.mem_append_right _ ha)⟩
    rw [h1.flat e.1] at h1
    exact h1
  | .lab none [0] false :: pk, d :: ds, _, _, j, e, h, hf => by
    simp only [RepL] at h
    obtain ⟨v, r, f1, f2, rfl, h1, h2, rfl⟩ := h
    simp only [pkOk] at e
    refine ⟨⟨v, f1, rfl, h1, fun a ha => .inr ⟨.inr rfl, List.mem_singleton.mpr rfl, fun _ => hf a (List.mem_append_left _ ha)⟩, .unk fun z => nomatch z⟩, cells_start j e h2 fun a ha => hf a (List.mem_append_right _ ha)⟩
  | [], _ :: _, _, _, _, e, _, _ => by cases e
  | k :: _, [], _, _, _, e, _, _ => by unfold pkOk at e; split at e <;> simp_all
  | .dead :: _, _ :: _, _, _, _, e, _, _ => by cases e
  | .exc _ _ :: _, _ :: _, _, _, _, e, _, _ => by cases e
  | .ob _ _ :: _, _ :: _, _, _, _, e, _, _ => by cases e
  | .dk _ _ _ _ :: _, _ :: _, _, _, _, e, _, _ => by cases e
  | .pr _ _ _ :: _, _ :: _, _, _, _, e, _, _ => by cases e
  | .ow _ _ _ :: _, _ :: _, _, _, _, e, _, _ => by cases e
  | .lab none [] _ :: _, _ :: _, _, _, _, e, _, _ => by cases e
  | .lab none [0] true :: _, _ :: _, _, _, _, e, _, _ => by cases e
  | .lab none [k+1] _ :: _, _ :: _, _, _, _, e, _, _ => by cases e
  | .lab none (_ :: _ :: _) _ :: _, _ :: _, _, _, _, e, _, _ => by unfold pkOk at e; split at e <;> simp_all
  | .lab (some _) _ _ :: _, _ :: _, _, _, _, e, _, _ => by cases e
theorem pkOk_len : ∀ {pk : List Kd} {ds : List D}, pkOk pk ds = true → ds.length = pk.length
  | [], ds, e => by cases ds <;> simp_all [pkOk]
  | k :: pk, ds, e => by
    unfold pkOk at e
    split at e
    · simp_all
    · rename_i h; cases h; simp only [Bool.and_eq_true] at e; simp [pkOk_len e.2]
    · rename_i h; cases h; simp [pkOk_len e]
    · cases e
theorem loc_start {H : Hp} {fp : List Addr} (h : ∀ a ∈ fp, H a ≠ none) : Loc ⟨fun a => a ∈ fp, fun _ => False⟩ [] (fun _ => 0) H := ⟨fun a z => absurd rfl z, h, fun a z => z.elim⟩
theorem step_ext {H H' : Hp} {g' : Addr → Nat} (s : Step [] (fun _ => 0) H g' H') : Ext H H' := fun a u e => s.kp a (.inl rfl) u e
theorem step_new {P : Fm} {H H' : Hp} {g' : Addr → Nat} (s : Step [] (fun _ => 0) H g' H') (l : Loc P [] g' H') (hf : ∀ a, ¬ P.frz a) {a : Addr} (h : g' a ≠ 0) : New H H' a := by
  refine ⟨?_, ?_⟩
  · cases q : H a with
    | none => rfl
    | some o => exact absurd (s.lk a (by rw [q]; simp) (.inl rfl)) h
  · obtain ⟨o, e, m | m⟩ := l.at_ a h
    · rw [e]; exact m
    · exact absurd m (hf a)
theorem rf_of {mg : Mg} {H H' : Hp} {g' : Addr → Nat} {fp : List Addr} {R : Rm} {d : D} {v : V} (s : Step [] (fun _ => 0) H g' H') (l : Loc ⟨fun a => a ∈ fp, fun _ => False⟩ [] g' H') (r : RV mg ⟨fun a => a ∈ fp, fun _ => False⟩ g' H' R d v) : RF mg H H' fp R d v := by
  cases R with
  | flat => exact r
  | fresh => obtain ⟨f, r1, n, q⟩ := r; exact ⟨f, r1, n, fun a ha => step_new s l (fun _ z => z) (q a ha)⟩
  | out => obtain ⟨f, r1, q⟩ := r; exact ⟨f, r1, fun a ha => (q a ha).imp (step_new s l (fun _ z => z)) id⟩
  | news => obtain ⟨f, r1, q⟩ := r; exact ⟨f, r1, fun a ha => step_new s l (fun _ z => z) (q a ha)⟩
  | outN => obtain ⟨f, r1, n, q⟩ := r; exact ⟨f, r1, n, fun a ha => (q a ha).imp (step_new s l (fun _ z => z)) id⟩
section
variable {P : Program} {w : World} {K : PySem.W.Frag} {mg : Str → Option Value} {base : Heap} {x qual : Str} {params : Arguments} {body : List Stmt} {scope : Scope} {f : Addr} {fd : FuncData}
/-- a def that lets nothing out -/
theorem fn_ok0 {N ps : List Str} {k : Nat} {sc : Sc} {Γ' : List Kd} {s : Sv} (F : FunD K x qual params body scope [] [] f fd) (S : FnScope N ps scope) (pk : List Kd) (hp : pk.length = ps.length) (hN : ps.length ≤ N.length) (hL : sc.LL = [])
    (hb : ∀ (cdv : Value) (A : Around) (outer : List Env) (s0 : Shared) (H : Hp) (E : XK), Room k (A.deeper (envOfC qual scope s0.heap.objs.size f cdv)) →
      SS (cxOf CX0 P w K mg base N qual scope f cdv A outer s0 H E).nox (fun _ _ _ _ => False) sc (pk ++ List.replicate (N.length - pk.length) .dead) body s Γ') :
    FnOk P w K mg base CX0 (k + 1) f fd ps (sp0 ⟨mg, K⟩ (fnSem N.length pk s) ps.length sc.R) := by
  refine F.ok S (fun vs H Q E h => h.1) (fun cdv A outer s0 H vs Q E hr h => ?_)
  obtain ⟨hl, ds, fp, d, r, e, q⟩ := h
  obtain ⟨t, p, kk⟩ := hb cdv A outer s0 H E hr
  refine ⟨t, p.nox, ?_⟩
  unfold fnSem at e
  split at e
  · rename_i hpk
    have hlen := pkOk_len hpk
    have hvd := r.length
    have st : Sta ⟨mg, K⟩ ⟨fun a => a ∈ fp, fun _ => False⟩ sc.LL (pk ++ List.replicate (N.length - pk.length) .dead) (fun _ => 0) (ds ++ List.replicate (N.length - ds.length) .non) (L2.start N vs) H := by
      rw [hL]
      refine ⟨loc_start r.there, ?_⟩
      unfold L2.start
      rw [hvd, hlen]
      exact cells_start _ hpk r fun a ha => ha
    cases o : s (ds ++ List.replicate (N.length - ds.length) .non) with
    | none => rw [o] at e; cases e
    | some o' =>
      rw [o] at e
      refine kk ⟨fun a => a ∈ fp, fun _ => False⟩ (fun _ => 0) _ _ H o' _ st o ?_
      cases o' with
      | nx ρ' =>
        cases e
        intro g' σ' H' s' st'
        rw [hL] at s'
        refine q .non H' (step_ext s') ?_
        have r : Rep ⟨mg, K⟩ H' .non .non [] := rep_non
        cases sc.R with
        | flat => exact r
        | fresh => exact ⟨[], r, by simp, fun a ha => nomatch ha⟩
        | out => exact ⟨[], r, fun a ha => nomatch ha⟩
        | news => exact ⟨[], r, fun a ha => nomatch ha⟩
        | outN => exact ⟨[], r, by simp, fun a ha => nomatch ha⟩
      | ct ρ' => cases e
      | rt d' =>
        cases e
        intro v g' H' s' l' rv
        rw [hL] at s' l'
        exact q v H' (step_ext s') (rf_of s' l' rv)
      | ex c ρ' => cases e
  · cases e
end

/-! ### calls -/
def eCall (f : List D → Option Res) (a : List D → Option (List D)) : Ev := fun ρ => do
  let ds ← a ρ
  match f ds with
  | some (.ret d) => some d
  | _ => none
def Rm.md : Rm → Md → Md
  | .flat, _ => .flat
  | .fresh, _ => .al true .new [] true
  | .news, _ => .al true .unk [] false
  | .outN, .flat => .al true .unk [] true
  | .outN, .al _ _ L _ => .al true .unk L true
  | .out, .flat => .al true .unk [] false
  | .out, .al _ _ L _ => .al true .unk L false
theorem rf_val {mg : Mg} {P : Fm} {g : Addr → Nat} {H H1 H2 : Hp} {m : Md} {fp : List Addr} {R : Rm} {d : D} {v : V} (e : Ext H H1) (e' : Ext H1 H2) (o : Fps P g H H1 m fp) (r : RF mg H1 H2 fp R d v) : Val mg P g H H2 (R.md m) d v := by
  cases R with
  | flat => exact r
  | fresh =>
    obtain ⟨f, r1, n, q⟩ := r
    refine ⟨f, r1, fun a ha => ?_, .of n⟩
    by_cases hv : v = .ref a
    · exact .inl ⟨hv, (q a ha).back e⟩
    · exact .inr ⟨.inl hv, .inl ⟨rfl, (q a ha).back e⟩⟩
  | news =>
    obtain ⟨f, r1, q⟩ := r
    exact ⟨f, r1, fun a ha => .inr ⟨.inr rfl, .inl ⟨rfl, (q a ha).back e⟩⟩, .unk fun z => nomatch z⟩
  | outN =>
    obtain ⟨f, r1, n, q⟩ := r
    cases m with
    | flat =>
      obtain rfl : fp = [] := o
      refine ⟨f, r1, fun a ha => ?_, .unk fun _ => n⟩
      rcases q a ha with y | y
      · exact .inr ⟨.inr rfl, .inl ⟨rfl, y.back e⟩⟩
      · cases y
    | al fr rt L nd =>
      refine ⟨f, r1, fun a ha => ?_, .unk fun _ => n⟩
      rcases q a ha with y | y
      · exact .inr ⟨.inr rfl, .inl ⟨rfl, y.back e⟩⟩
      · rcases o.1 a y with ⟨_, z⟩ | z
        · exact .inr ⟨.inr rfl, .inl ⟨rfl, z.ext e'⟩⟩
        · exact .inr ⟨.inr rfl, .inr z⟩
  | out =>
    obtain ⟨f, r1, q⟩ := r
    cases m with
    | flat =>
      obtain rfl : fp = [] := o
      refine ⟨f, r1, fun a ha => ?_, .unk fun z => nomatch z⟩
      rcases q a ha with y | y
      · exact .inr ⟨.inr rfl, .inl ⟨rfl, y.back e⟩⟩
      · cases y
    | al fr rt L nd =>
      refine ⟨f, r1, fun a ha => ?_, .unk fun z => nomatch z⟩
      rcases q a ha with y | y
      · exact .inr ⟨.inr rfl, .inl ⟨rfl, y.back e⟩⟩
      · rcases o.1 a y with ⟨_, z⟩ | z
        · exact .inr ⟨.inr rfl, .inl ⟨rfl, z.ext e'⟩⟩
        · exact .inr ⟨.inr rfl, .inr z⟩
section
variable {X : Cx} {LL : List Nat} {Γ : List Kd} {pos p : Pos} {k : Nat} {f : Addr} {fd : FuncData} {ps : List Str} {sem : List D → Option Res} {R : Rm} {x : Str}
theorem ex_call {e : Expr} {es : List Expr} {a : List D → Option (List D)} {m : Md} {n : Nat} (F : FnOk X.prog X.w X.K X.mg X.base CX0 k f fd ps (sp0 X.vm sem n R)) (hr : Room k X.A) (hg : Gl X x) (hm : X.mg x = some (.ref f)) (hk : PySem.W.keepIn X.K (.ref f) = true) (hb : Binds X.K fd ps [])
    (ha : EA X LL Γ (e :: es) a m) (hn : (e :: es).length = n := by rfl) (hdb : (x == ("__debug__" : Str)) = false := by decide) (he : starEach (e :: es) X.env = (false, eval e X.env) :: starEach es X.env := by rfl) (hpl : (backTo pos (starEach es X.env)).any (·.1) = false := by rfl) :
    EX X LL Γ (.Call (.Name x p) (e :: es) [] pos) (eCall sem a) (R.md m) := by
  obtain ⟨hl, t, pt, kk⟩ := ha
  refine ⟨_, pe_call F hr hg hm hk hb .nil pass0 pt hdb he hpl, fun P g ρ σ H d Q s e0 q => ?_⟩
  obtain ⟨ds, e1, e2⟩ := bind_some e0
  refine kk P g ρ σ H ds _ s e1 fun vs H1 x1 vl => ?_
  obtain ⟨fp, r, o⟩ := vl
  have hlen : (vs ++ []).length = n := by rw [List.append_nil, r.length, hl ρ ds e1]; exact hn
  refine ⟨hlen, ds, fp, d, by rw [List.append_nil]; exact r, ?_, fun v H2 x2 rf => q v H2 (x1.trans x2) (rf_val x1 x2 o rf)⟩
  split at e2
  · cases e2; assumption
  · cases e2
end
end VV

/-! ## VLoop -/
namespace VV
open PySem PySem.Spec PyProof.Rows L2

theorem PE_imp {X : Cx} {e : Expr} {t t' : TE} (p : PE X e t) (h : ∀ σ H Q, t' σ H Q → t σ H Q) : PE X e t' := ⟨fun pins s σ H Q I q => p.run pins s σ H Q I (h σ H Q q)⟩
theorem PTs_imp {X : Cx} {e : List Expr} {t t' : TT} (p : PTs X e t) (h : ∀ σ H Q, t' σ H Q → t σ H Q) : PTs X e t' := ⟨fun pins s σ H Q I q => p.run pins s σ H Q I (h σ H Q q)⟩
theorem PG_imp {X : Cx} {e : Expr} {t t' : TG} (p : PG X e t) (h : ∀ v σ H Q, t' v σ H Q → t v σ H Q) : PG X e t' := ⟨fun pins s σ H v u Q I r q => p.run pins s σ H v u Q I r (h v σ H Q q)⟩
def canT (mg : Mg) (LL : List Nat) (Γ : List Kd) (sem : Ev) (m : Md) : TE := fun σ H Q => ∃ P g ρ d, Sta mg P LL Γ g ρ σ H ∧ sem ρ = some d ∧ ∀ v H', Ext H H' → Val mg P g H H' m d v → Q v H'
def canB (mg : Mg) (LL : List Nat) (Γ : List Kd) (sem : List D → Option Bool) : TT := fun σ H Q => ∃ P g ρ d, Sta mg P LL Γ g ρ σ H ∧ sem ρ = some d ∧ ∀ H', Ext H H' → Q d H'
def canG (mg : Mg) (Γ : List Kd) (k : Kd) (sem : Tv) (Γ' : List Kd) (S : List Nat) : TG := fun v σ H Q => ∃ P LL g ρ d ρ', Sta mg P LL Γ g ρ σ H ∧ CellOk mg P g H k d (some v) ∧ sem d ρ = some ρ' ∧ ∀ σ', Sta mg P LL Γ' g ρ' σ' H → Wp S σ σ' → Q σ' H
theorem ex_can {X : Cx} {LL : List Nat} {Γ : List Kd} {e : Expr} {sem : Ev} {m : Md} (h : EX X LL Γ e sem m) : PE X e (canT X.vm LL Γ sem m) := by
  obtain ⟨t, p, k⟩ := h
  exact PE_imp p fun σ H Q ⟨P, g, ρ, d, s, e, q⟩ => k P g ρ σ H d Q s e q
/-- a list of tests (of a comprehension) -/
def ETs (X : Cx) (LL : List Nat) (Γ : List Kd) (e : List Expr) (sem : List D → Option Bool) : Prop :=
  ∃ t, PTs X e t ∧ ∀ P g ρ σ H b Q, Sta X.vm P LL Γ g ρ σ H → sem ρ = some b → (∀ H', Ext H H' → Q b H') → t σ H Q
def cYes : List D → Option Bool := fun _ => some true
theorem ets_nil {X : Cx} {LL : List Nat} {Γ : List Kd} : ETs X LL Γ [] cYes := ⟨_, pts_nil, fun P g ρ σ H b Q s e q => by cases e; exact q H Ext.refl⟩
theorem ets_one {X : Cx} {LL : List Nat} {Γ : List Kd} {e : Expr} {s : List D → Option Bool} (h : ET X LL Γ e s) : ETs X LL Γ [e] s := let ⟨t, p, k⟩ := h; ⟨t, pts_one p, k⟩
theorem ets_can {X : Cx} {LL : List Nat} {Γ : List Kd} {e : List Expr} {sem : List D → Option Bool} (h : ETs X LL Γ e sem) : PTs X e (canB X.vm LL Γ sem) := by
  obtain ⟨t, p, k⟩ := h
  exact PTs_imp p fun σ H Q ⟨P, g, ρ, d, s, e, q⟩ => k P g ρ σ H d Q s e q
theorem eg_can {X : Cx} {Γ Γ' : List Kd} {e : Expr} {k : Kd} {sem : Tv} {S : List Nat} (h : EG X Γ e k sem Γ' S) : PG X e (canG X.vm Γ k sem Γ' S) := by
  obtain ⟨t, p, kk⟩ := h
  exact PG_imp p fun v σ H Q ⟨P, LL, g, ρ, d, ρ', s, c, e, q⟩ => kk P LL g ρ σ H d v ρ' Q s c e q

/-! ### what is walked -/
def Kept (H H' : Hp) (fp : List Addr) : Prop := (∀ a ∈ fp, ∀ u, H a = some u → H' a = some u) ∧ KpT H H'
theorem Ext.kept {H H' : Hp} (e : Ext H H') (fp : List Addr) : Kept H H' fp := ⟨fun a _ u h => e a u h, e.kpT⟩
theorem Kept.rep {mg : Mg} {H H' : Hp} {F f : List Addr} {d : D} {v : V} (k : Kept H H' F) (h : Rep mg H d v f) (s : ∀ a ∈ f, a ∈ F) : Rep mg H' d v f :=
  h.keep (fun a ha => ⟨fun u _ r => by rcases r with r | ⟨o, r⟩; exact .inl (k.1 a (s a ha) u r); exact .inr ⟨o, k.1 a (s a ha) _ r⟩, fun vs r => k.1 a (s a ha) _ r, fun _ _ _ r => k.1 a (s a ha) _ r⟩) k.2
def Iter (mg : Mg) (P : Fm) (g : Addr → Nat) (H H' : Hp) (J : It) (labs : List Nat) (me : Md) (ds : List D) : Prop :=
  ∃ fpI : List Addr, (∀ a ∈ fpI, New H H' a ∨ Old P g labs a) ∧ ∀ H2, Kept H' H2 fpI →
    (∀ (i : Nat) (d : D), ds[i]? = some d → J.go i H2 ∧ ∀ x H3, J.yld i H2 x H3 → Ext H2 H3 ∧ ∃ f, Rep mg H3 d x f ∧ Fps P g H H' me f ∧ ∀ a ∈ f, a ∈ fpI) ∧ J.stop ds.length H2
def EI (X : Cx) (LL : List Nat) (Γ : List Kd) (tg it : Expr) (sem : List D → Option (List D)) (labs : List Nat) (me : Md) : Prop :=
  ∃ wi, PI X tg it wi ∧ ∀ P g ρ σ H ds R, Sta X.vm P LL Γ g ρ σ H → sem ρ = some ds → (∀ J H', Ext H H' → ds.length ≤ sizeLine → Iter X.vm P g H H' J labs me ds → R J H') → wi σ H R
def Sized (K : PySem.W.Frag) (H : Hp) : Prop := (∀ a xs, SqL K H a xs → xs.length ≤ sizeLine) ∧ ∀ a xs, SqT K H a xs → xs.length ≤ sizeLine
theorem pi_sized {X : Cx} {tg it : Expr} {wi : TI} (h : PI X tg it wi) : PI X tg it (fun σ H R => wi σ H fun J H1 => Sized X.K H1 → R J H1) := by
  refine ⟨fun pins s σ H R I hw => thn (h.run pins s σ H _ I hw) fun v s1 h1 => thn h1 fun u s2 ⟨it', fp, tn, J, H', e, I', T, t0, f, r⟩ => ?_⟩
  refine ⟨it', fp, tn, J, H', e, I', T, t0, f, r ⟨fun a xs q => ?_, fun a xs q => ?_⟩⟩
  · obtain ⟨_, _, _, z⟩ := I'.list q; exact z
  · obtain ⟨_, _, _, z⟩ := I'.tuple q; exact z
def Md.labs : Md → List Nat
  | .flat => []
  | .al _ rt L _ => (match rt with | .old n => n :: L | _ => L)
theorem Val.labs {mg : Mg} {P : Fm} {g : Addr → Nat} {H H' : Hp} {m : Md} {d : D} {v : V} (h : Val mg P g H H' m d v) : ∃ fp, Rep mg H' d v fp ∧ Fps P g H H' m.unroot fp ∧ (∀ a ∈ fp, New H H' a ∨ Old P g m.labs a) ∧
    ∀ f : List Addr, (∃ f1 f2, (∃ a, v = .ref a ∧ fp = a :: (f1 ++ f ++ f2)) ∨ (fp = f1 ++ f ++ f2 ∧ ∀ a, v = .ref a → a ∉ fp)) → Fps P g H H' m.child f := by
  cases m with
  | flat =>
    refine ⟨[], h, rfl, (fun a ha => nomatch ha), fun f ⟨f1, f2, e⟩ => ?_⟩
    rcases e with ⟨a, _, e⟩ | ⟨e, _⟩
    · cases e
    · have := congrArg List.length e
      simp at this
      exact List.eq_nil_of_length_eq_zero (by omega)
  | al fr rt L nd =>
    obtain ⟨fp, r, o⟩ := h
    refine ⟨fp, r, o.unroot, fun a ha => ?_, fun f ⟨f1, f2, e⟩ => ?_⟩
    · rcases o.1 a ha with ⟨_, y⟩ | ⟨_, ⟨_, y⟩ | y⟩
      · cases rt with
        | new => exact .inl y
        | old n => exact .inr ⟨by rw [List.mem_singleton.mp y.1]; exact List.mem_cons_self, y.2⟩
        | unk => exact y.elim
      · exact .inl y
      · refine .inr ⟨?_, y.2⟩
        cases rt with
        | new => exact y.1
        | old n => exact List.mem_cons_of_mem _ y.1
        | unk => exact y.1
    · have hs : ∀ a ∈ f, a ∈ fp := fun a ha => by
        rcases e with ⟨b, _, rfl⟩ | ⟨rfl, _⟩
        · exact List.mem_cons_of_mem _ (List.mem_append_left _ (List.mem_append_right _ ha))
        · exact List.mem_append_left _ (List.mem_append_right _ ha)
      cases nd with
      | true =>
        refine ⟨fun a ha => ?_, fun _ => ?_⟩
        · rcases o.1 a (hs a ha) with ⟨e2, y⟩ | ⟨_, y⟩
          · exfalso
            rcases e with ⟨b, e3, rfl⟩ | ⟨_, z⟩
            · rw [e3] at e2; cases e2
              exact (List.nodup_cons.mp (o.2.1 rfl)).1 (List.mem_append_left _ (List.mem_append_right _ ha))
            · exact z a e2 (hs a ha)
          · exact y
        · have n := o.2.1 rfl
          rcases e with ⟨b, _, rfl⟩ | ⟨rfl, _⟩
          · have n := (List.nodup_cons.mp n).2
            exact (List.nodup_append.mp (List.nodup_append.mp n).1).2.1
          · exact (List.nodup_append.mp (List.nodup_append.mp n).1).2.1
      | false =>
        have q := o.unroot
        show Fps P g H H' (Md.al fr rt L false).unroot f
        cases rt <;> exact ⟨fun a ha => q.1 a (hs a ha), fun h => nomatch h⟩
section
variable {X : Cx} {LL : List Nat} {Γ : List Kd} {pos p : Pos} {tg e : Expr} {se : Ev} {m : Md}
def iLst (s : Ev) : List D → Option (List D) := fun ρ => do match (← s ρ) with
  | .lst l => some l
  | .scr l => some l
  | _ => none
def iTupl (s : Ev) : List D → Option (List D) := fun ρ => do match (← s ρ) with
  | .tup l => some l
  | _ => none
theorem RepL.parts {mg : Mg} {H : Hp} {ds : List D} {vs : List V} {fp : List Addr} (h : RepL mg H ds vs fp) {i : Nat} {d : D} (e : ds[i]? = some d) : ∃ v f, vs[i]? = some v ∧ Rep mg H d v f ∧ ∃ f1 f2, fp = f1 ++ f ++ f2 := by
  obtain ⟨v, f1, f, f2, e1, r, e2⟩ := h.get e
  exact ⟨v, f, e1, r, f1, f2, e2⟩
theorem ei_list (he : EX X LL Γ e se m) : EI X LL Γ tg e (iLst se) m.labs m.child := by
  obtain ⟨t, pt, k⟩ := he
  refine ⟨_, pi_sized (pi_list pt), fun P g ρ σ H ds R s e0 q => ?_⟩
  obtain ⟨d, e1, e0⟩ := bind_some e0
  refine k P g ρ σ H d _ s e1 fun v H1 x1 w => ?_
  obtain ⟨fp, r, o, lb, ch⟩ := w.labs
  cases d with
  | lst l =>
    cases e0
    have r0 := r
    simp only [Rep] at r0
    obtain ⟨a, vs, f, rfl, ha, h2, rfl⟩ := r0
    refine ⟨a, rfl, ⟨vs, SqL.of ha⟩, fun sz => q _ H1 x1 (by rw [← h2.length]; exact sz.1 a vs (SqL.of ha)) ⟨a :: f, lb, fun H2 kp => ⟨fun i d hi => ?_, ?_⟩⟩⟩
    · obtain ⟨u, fi, e3, ri, f1, f2, rfl⟩ := h2.parts hi
      have ha2 : H2 a = some (.lst vs) := kp.1 a List.mem_cons_self _ ha
      refine ⟨⟨vs, u, SqL.of ha2, e3⟩, fun x H3 y => ?_⟩
      obtain ⟨rfl, y⟩ := y
      have := y vs (SqL.of ha2)
      rw [e3] at this; cases this
      have sub : ∀ b ∈ fi, b ∈ a :: (f1 ++ fi ++ f2) := fun b hb => List.mem_cons_of_mem _ (List.mem_append_left _ (List.mem_append_right _ hb))
      exact ⟨Ext.refl, fi, kp.rep ri sub, ch fi ⟨f1, f2, .inl ⟨a, rfl, rfl⟩⟩, sub⟩
    · exact ⟨vs, SqL.of (kp.1 a List.mem_cons_self _ ha), by rw [h2.length]; exact Nat.le_refl _⟩
  | scr l =>
    cases e0
    have r0 := r
    simp only [Rep] at r0
    obtain ⟨a, vs, rfl, ha, h2, rfl⟩ := r0
    refine ⟨a, rfl, ⟨vs, ha.sq⟩, fun sz => q _ H1 x1 (by rw [← h2.length]; exact sz.1 a vs ha.sq) ⟨[], lb, fun H2 kp => ⟨fun i d hi => ?_, ?_⟩⟩⟩
    · obtain ⟨u, fi, e3, ri, f1, f2, e4⟩ := h2.parts hi
      have e5 : fi = [] ∧ f1 = [] ∧ f2 = [] := by
        have := congrArg List.length e4
        simp at this
        exact ⟨List.eq_nil_of_length_eq_zero (by omega), List.eq_nil_of_length_eq_zero (by omega), List.eq_nil_of_length_eq_zero (by omega)⟩
      obtain ⟨rfl, rfl, rfl⟩ := e5
      have ha2 : ScrAt X.K H2 a vs := ha.imp (fun ⟨o, r⟩ => ⟨o, kp.2.2.1 a o vs r⟩) id
      refine ⟨⟨vs, u, ha2.sq, e3⟩, fun x H3 y => ?_⟩
      obtain ⟨rfl, y⟩ := y
      have := y vs ha2.sq
      rw [e3] at this; cases this
      exact ⟨Ext.refl, [], kp.rep ri (fun b hb => nomatch hb), ch [] ⟨[], [], .inr ⟨rfl, fun b eb => nofun⟩⟩, fun b hb => nomatch hb⟩
    · have ha2 : ScrAt X.K H2 a vs := ha.imp (fun ⟨o, r⟩ => ⟨o, kp.2.2.1 a o vs r⟩) id
      exact ⟨vs, ha2.sq, by rw [h2.length]; exact Nat.le_refl _⟩
  | _ => cases e0
/-- lo, lo + 1, .. -/
def rngD (lo : Int) (n : Nat) : List D := (List.range n).map fun i : Nat => .int (lo + i)
theorem rngD_get {lo : Int} {n i : Nat} {d : D} (h : (rngD lo n)[i]? = some d) : i < n ∧ d = .int (lo + i) := by
  unfold rngD at h
  rw [List.getElem?_map] at h
  by_cases hi : i < n
  · rw [List.getElem?_range hi] at h
    cases h
    exact ⟨hi, rfl⟩
  · rw [List.getElem?_eq_none (by simpa using hi)] at h
    cases h
theorem iter_rngD {mg : Mg} {P : Fm} {g : Addr → Nat} {H H' : Hp} {lo : Int} {n : Nat} : Iter mg P g H H' (Itr lo n) [] .flat (rngD lo n) := by
  refine ⟨[], (fun a ha => nomatch ha), fun H2 kp => ⟨fun i d hi => ?_, ?_⟩⟩
  · obtain ⟨h1, rfl⟩ := rngD_get hi
    refine ⟨h1, fun x H3 y => ?_⟩
    obtain ⟨rfl, rfl⟩ := y
    exact ⟨Ext.refl, [], rep_int, rfl, fun a ha => nomatch ha⟩
  · show n ≤ (rngD lo n).length
    unfold rngD
    simp
def iRng (a : List D → Option (List D)) : List D → Option (List D) := fun ρ => do match (← a ρ) with
  | [.int j] => if j ≤ 10000000 ∧ -10000000 ≤ j then some (rngD 0 j.toNat) else none
  | [.int i, .int j] => if j ≤ 10000000 ∧ -10000000 ≤ i ∧ i ≤ 10000000 ∧ -10000000 ≤ j ∧ j - i ≤ 10000000 then some (rngD i (j - i).toNat) else none
  | _ => none
theorem ei_range1 {a : Expr} {sa : List D → Option (List D)} (hg : Gl X "range") (hm : X.mg "range" = none) (ha : EA X LL Γ [a] sa m) (hs : starEach [a] X.env = [(false, eval a X.env)] := by rfl) : EI X LL Γ tg (.Call (.Name "range" p) [a] [] pos) (iRng sa) [] .flat := by
  obtain ⟨hl, t, pt, k⟩ := ha
  refine ⟨_, pi_range1 hg hm pt hs, fun P g ρ σ H ds R s e0 q => ?_⟩
  obtain ⟨d, e1, e0⟩ := bind_some e0
  have hlen := hl ρ d e1
  refine k P g ρ σ H d _ s e1 fun vs H1 x1 w => ?_
  obtain ⟨fp, r⟩ := w.rep
  split at e0
  · split at e0
    · cases e0
      obtain ⟨v, rfl, h⟩ := repL1 r
      obtain rfl := rInt h
      rename_i j hj
      refine ⟨j, rfl, by omega, by omega, ?_⟩
      exact q _ H1 x1 (by unfold rngD; simp; rw [sizeLine_eq]; omega) iter_rngD
    · cases e0
  · simp at hlen
  · cases e0
theorem ei_range2 {a b : Expr} {sa : List D → Option (List D)} (hg : Gl X "range") (hm : X.mg "range" = none) (ha : EA X LL Γ [a, b] sa m) (hs : starEach [a, b] X.env = [(false, eval a X.env), (false, eval b X.env)] := by rfl) (hs2 : starEach [b] X.env = [(false, eval b X.env)] := by rfl) : EI X LL Γ tg (.Call (.Name "range" p) [a, b] [] pos) (iRng sa) [] .flat := by
  obtain ⟨hl, t, pt, k⟩ := ha
  refine ⟨_, pi_range2 hg hm pt hs hs2, fun P g ρ σ H ds R s e0 q => ?_⟩
  obtain ⟨d, e1, e0⟩ := bind_some e0
  have hlen := hl ρ d e1
  refine k P g ρ σ H d _ s e1 fun vs H1 x1 w => ?_
  obtain ⟨fp, r⟩ := w.rep
  split at e0
  · simp at hlen
  · split at e0
    · cases e0
      rename_i i j hj
      obtain ⟨v, v2, _, _, rfl, h, h', _⟩ := repL2 r
      obtain rfl := rInt h
      obtain rfl := rInt h'
      refine ⟨i, j, rfl, ⟨by omega, by omega, by omega, by omega⟩, ?_⟩
      exact q _ H1 x1 (by unfold rngD; simp; rw [sizeLine_eq]; omega) iter_rngD
    · cases e0
  · cases e0
end
end VV

/-! ## VLoop2 -/
namespace VV
open PySem PySem.Spec PyProof.Rows L2

/-! ### for -/
def forL (t : Tv) (b : Sv) : List D → List D → Option Out
  | [], ρ => some (.nx ρ)
  | x :: xs, ρ => match t x ρ with
    | none => none
    | some ρ1 => match b ρ1 with
      | some (.nx ρ2) => forL t b xs ρ2
      | some (.ct ρ2) => forL t b xs ρ2
      | o => o
def sFor (it : List D → Option (List D)) (t : Tv) (b : Sv) : Sv := fun ρ => do forL t b (← it ρ) ρ
/-- the kind of a loop's name -/
def Md.kindI (n : Nat) : Md → Kd
  | .flat => .flat
  | .al fr _ L nd => .lab none (if fr then n :: L else L) nd
theorem fps_cell {mg : Mg} {P : Fm} {LL : List Nat} {g g' : Addr → Nat} {H H1 H' : Hp} {me : Md} {f : List Addr} {d : D} {v : V} {n : Nat} (l : Loc P LL g H) (r : Rep mg H' d v f) (o : Fps P g H H1 me f) (hn : n ≠ 0)
    (hg : ∀ a ∈ f, g' a = relab g H H1 .non n n a) : CellOk mg P g' H' (me.kindI n) d (some v) := by
  cases me with
  | flat =>
    obtain rfl : f = [] := o
    exact ⟨v, rfl, r⟩
  | al fr rt L nd =>
    refine ⟨v, f, rfl, r, fun a ha => .inr ⟨.inr rfl, ?_⟩, .unk o.2⟩
    unfold Old
    rw [hg a ha]
    rcases o.1 a ha with ⟨hfr, y⟩ | y
    · rw [relab_new y]
      subst hfr
      refine ⟨?_, fun z => ?_⟩
      · show _ ∈ n :: L
        split <;> exact List.mem_cons_self
      · split at z <;> exact absurd z hn
    · have := Old.relab (H' := H1) (v := .non) (n := n) (m := n) y l
      refine ⟨?_, this.2⟩
      cases fr with
      | false => exact this.1
      | true => exact List.mem_cons_of_mem _ this.1
theorem Step.sub {LL LL' : List Nat} {g g' : Addr → Nat} {H H' : Hp} (s : Step LL' g H g' H') (h : ∀ n ∈ LL, n ∈ LL') : Step LL g H g' H' :=
  ⟨fun a x u e => s.kp a (x.imp id (h _)) u e, fun a e x => s.lk a e (x.imp id (h _)), s.th⟩
theorem Loc.up {P : Fm} {LL LL' : List Nat} {g : Addr → Nat} {H : Hp} (l : Loc P LL g H) (h : ∀ n ∈ LL, n ∈ LL') : Loc P LL' g H := ⟨l.at_, l.out, fun a x => ⟨(l.fz a x).1, (l.fz a x).2.imp id (h _)⟩⟩
/-- back to fewer locks: what was locked for good before is still so -/
theorem Loc.down {P : Fm} {LL LL' : List Nat} {g g' : Addr → Nat} {H H' : Hp} (l' : Loc P LL' g' H') (l : Loc P LL g H) (s : Step LL g H g' H') : Loc P LL g' H' :=
  ⟨l'.at_, l'.out, fun a x => ⟨(l'.fz a x).1, by rw [s.lk a (l.fzn x) (l.fz a x).2]; exact (l.fz a x).2⟩⟩
theorem Step.tups {P : Fm} {LL : List Nat} {g g' : Addr → Nat} {H H' : Hp} (s : Step LL g H g' H') (l : Loc P LL g H) {u : HO} (hu : ¬ Mut (some u)) (a : Addr) (e : H a = some u) : H' a = some u := by
  have key : VV.lk LL (g a) := by
    by_cases h : g a = 0
    · exact .inl h
    · obtain ⟨o, e', m | m⟩ := l.at_ a h
      · rw [e] at e'; cases e'; exact absurd m hu
      · exact (l.fz a m).2
  exact s.kp a key _ e
theorem Step.kpT {P : Fm} {LL : List Nat} {g g' : Addr → Nat} {H H' : Hp} (s : Step LL g H g' H') (l : Loc P LL g H) : KpT H H' := by
  refine ⟨fun a xs r => ?_, fun a o vs r => s.tups l (show ¬ Mut (some (HO.frz o (.lst vs))) from fun z => z) a r, fun a o vs r => s.tups l (show ¬ Mut (some (HO.frz o (.tup vs))) from fun z => z) a r⟩
  exact s.tups l (show ¬ Mut (some (HO.tup xs)) from fun z => z) a r
theorem wantS_sub {X : Cx} {W : L2.WX} {sc sc' : Sc} {P : Fm} {Γ' : List Kd} {g g0 : Addr → Nat} {H H0 : Hp} {D D' : Ends} {o : Out} (hL : ∀ n ∈ sc.LL, n ∈ sc'.LL) (hR : sc'.R = sc.R) (hx : sc'.Γx = sc.Γx) (hD : D'.rt = D.rt) (l : Loc P sc.LL g0 H0) (s0 : Step sc.LL g0 H0 g H)
    (w : WantS X W sc P Γ' g0 H0 D o) (ho : (∃ d, o = .rt d) ∨ ∃ c ρ, o = .ex c ρ) (Γ1 : List Kd) : WantS X W sc' P Γ1 g H D' o := by
  rcases ho with ⟨d, rfl⟩ | ⟨c, ρ, rfl⟩
  · intro v g' H' s l' r
    rw [hD]
    have st := s0.trans (s.sub hL)
    exact w v g' H' st (l'.down l st) (by rw [← hR]; exact r)
  · intro C g' σ' H' m s st
    have stt := s0.trans (s.sub hL)
    exact w C g' σ' H' m stt ⟨st.loc.down l stt, by rw [← hx]; exact st.cells⟩
section
variable {X : Cx} {W : L2.WX} {sc : Sc} {Γ Γ1 : List Kd} {pos : Pos}
theorem for_run {t : Tv} {sb : Sv} {labs : List Nat} {me : Md} {S : List Nat} {n : Nat} {tgt : TG} {tb : TS} {wi : TI}
    (kg : ∀ P LL g ρ σ H d v ρ' (Q : L2.St → Hp → Prop), Sta X.vm P LL Γ g ρ σ H → CellOk X.vm P g H (me.kindI n) d (some v) → t d ρ = some ρ' → (∀ σ', Sta X.vm P LL Γ1 g ρ' σ' H → Wp S σ σ' → Q σ' H) → tgt v σ H Q)
    (kb : ∀ P g ρ σ H o D, Sta X.vm P (n :: (labs ++ sc.LL)) Γ1 g ρ σ H → sb ρ = some o → WantS X W { sc with LL := n :: (labs ++ sc.LL), Γc := Γ } P Γ g H D o → tb D σ H)
    (hn : n ≠ 0) {P : Fm} {g : Addr → Nat} {ρ : List D} {σ : L2.St} {H : Hp} {ds : List D} {o : Out} {De : Ends} (s : Sta X.vm P sc.LL Γ g ρ σ H)
    (ki : ∀ R : It → Hp → Prop, (∀ J H', Ext H H' → Iter X.vm P g H H' J labs me ds → R J H') → wi σ H R) (e : forL t sb ds ρ = some o) (w : WantS X W sc P Γ g H De o) : tFor wi tgt tb De σ H := by
  refine ki _ fun J H1 x1 it => ?_
  obtain ⟨fpI, lb, walk⟩ := it
  -- what is new is labelled n, and locked
  have s1 : Sta X.vm P sc.LL Γ (relab g H H1 .non n n) ρ σ H1 := s.relab x1
  have st1 : Step sc.LL g H (relab g H H1 .non n n) H1 := .relab x1
  have subL : ∀ k ∈ sc.LL, k ∈ n :: (labs ++ sc.LL) := fun k hk => List.mem_cons_of_mem _ (List.mem_append_right _ hk)
  have lkI : ∀ a ∈ fpI, lk (n :: (labs ++ sc.LL)) (relab g H H1 .non n n a) := fun a ha => by
    rcases lb a ha with y | y
    · rw [relab_new y]; right; split <;> exact List.mem_cons_self
    · rw [relab_old (y.there s.loc)]; right
      exact List.mem_cons_of_mem _ (List.mem_append_left _ y.1)
  generalize hg1 : relab g H H1 .non n n = g1 at s1 st1 lkI
  -- the turn's state: what is left of the items
  refine ⟨fun i m σ' H' => m = ds.length - i ∧ i ≤ ds.length ∧ ∃ ρ' g', forL t sb (ds.drop i) ρ' = some o ∧ Sta X.vm P (n :: (labs ++ sc.LL)) Γ g' ρ' σ' H' ∧ Step (n :: (labs ++ sc.LL)) g1 H1 g' H',
    ⟨ds.length, rfl, Nat.zero_le _, ρ, g1, by rw [List.drop_zero]; exact e, ⟨s1.loc.up subL, s1.cells⟩, .refl⟩, ?_⟩
  rintro i m σ2 H2 ⟨rfl, hil, ρ2, g2, e2, s2, st2⟩
  have kept : Kept H1 H2 fpI := ⟨fun a ha u r => st2.kp a (lkI a ha) u r, st2.kpT (s1.loc.up subL)⟩
  obtain ⟨wk, wstop⟩ := walk H2 kept
  have back : ∀ {ρ3 : List D} {σ3 : L2.St} {g3 : Addr → Nat} {H3 : Hp}, Step (n :: (labs ++ sc.LL)) g1 H1 g3 H3 → Sta X.vm P (n :: (labs ++ sc.LL)) Γ g3 ρ3 σ3 H3 → Step sc.LL g H g3 H3 ∧ Sta X.vm P sc.LL Γ g3 ρ3 σ3 H3 := fun st3 s3 =>
    have h := st1.trans (st3.sub subL)
    ⟨h, s3.loc.down s.loc h, s3.cells⟩
  by_cases hi' : i < ds.length
  · refine .inr ?_
    obtain ⟨go, yl⟩ := wk i ds[i] (List.getElem?_eq_getElem hi')
    rw [List.drop_eq_getElem_cons hi'] at e2
    unfold forL at e2
    cases et : t ds[i] ρ2 with
    | none => rw [et] at e2; cases e2
    | some ρ3 =>
      rw [et] at e2
      dsimp only at e2
      refine ⟨go, fun σ' H' => ∃ m', m' < ds.length - i ∧ (m' = ds.length - (i + 1) ∧ i + 1 ≤ ds.length ∧ ∃ ρ' g', forL t sb (ds.drop (i + 1)) ρ' = some o ∧ Sta X.vm P (n :: (labs ++ sc.LL)) Γ g' ρ' σ' H' ∧ Step (n :: (labs ++ sc.LL)) g1 H1 g' H'), fun σ' H' h => h, fun x H3 y => ?_⟩
      obtain ⟨x3, f, r, of, sub⟩ := yl x H3 y
      have s3 := s2.ext x3
      have cell : CellOk X.vm P g2 H3 (me.kindI n) ds[i] (some x) := fps_cell s.loc r of hn fun a ha => by
        rw [hg1]
        obtain ⟨u, hu⟩ : ∃ u, H1 a = some u := by
          rcases lb a (sub a ha) with y | y
          · cases q : H1 a with
            | none => have := y.2; rw [q] at this; exact this.elim
            | some u => exact ⟨u, rfl⟩
          · cases q : H1 a with
            | none => exact absurd (x1.nope q) (y.there s.loc)
            | some u => exact ⟨u, rfl⟩
        exact st2.lk a (by rw [hu]; simp) (lkI a (sub a ha))
      refine kg P _ g2 ρ2 σ2 H3 ds[i] x ρ3 _ s3 cell et fun σ4 s4 _ => ?_
      have st3 : Step (n :: (labs ++ sc.LL)) g1 H1 g2 H3 := st2.trans (.ext x3)
      have again : ∀ {ρ5 : List D} {σ5 : L2.St} {g5 : Addr → Nat} {H5 : Hp}, forL t sb (ds.drop (i + 1)) ρ5 = some o → Step (n :: (labs ++ sc.LL)) g2 H3 g5 H5 → Sta X.vm P (n :: (labs ++ sc.LL)) Γ g5 ρ5 σ5 H5 →
          ∃ m', m' < ds.length - i ∧ (m' = ds.length - (i + 1) ∧ i + 1 ≤ ds.length ∧ ∃ ρ' g', forL t sb (ds.drop (i + 1)) ρ' = some o ∧ Sta X.vm P (n :: (labs ++ sc.LL)) Γ g' ρ' σ5 H5 ∧ Step (n :: (labs ++ sc.LL)) g1 H1 g' H5) := fun {ρ5 σ5 g5 H5} e5 st5 s5 =>
        ⟨_, by omega, rfl, hi', ρ5, g5, e5, s5, st3.trans st5⟩
      cases eb : sb ρ3 with
      | none => rw [eb] at e2; cases e2
      | some o3 =>
        rw [eb] at e2
        refine kb P g2 ρ3 σ4 H3 o3 _ s4 eb ?_
        cases o3 with
        | nx ρ5 => exact fun g5 σ5 H5 st5 s5 => again e2 st5 s5
        | ct ρ5 => exact fun g5 σ5 H5 st5 s5 => again e2 st5 s5
        | rt d =>
          cases e2
          exact wantS_sub (D := De) (sc := sc) (sc' := { sc with LL := n :: (labs ++ sc.LL), Γc := Γ }) subL rfl rfl rfl s.loc (st1.trans (st3.sub subL)) w (.inl ⟨d, rfl⟩) Γ
        | ex c ρ5 =>
          cases e2
          exact wantS_sub (D := De) (sc := sc) (sc' := { sc with LL := n :: (labs ++ sc.LL), Γc := Γ }) subL rfl rfl rfl s.loc (st1.trans (st3.sub subL)) w (.inr ⟨c, ρ5, rfl⟩) Γ
  · have : i = ds.length := by omega
    subst this
    refine .inl ⟨wstop, ?_⟩
    rw [List.drop_length] at e2
    cases e2
    obtain ⟨h1, h2⟩ := back st2 s2
    exact w g2 σ2 H2 h1 h2
theorem sx_for {iter tg : Expr} {body : List Stmt} {si : List D → Option (List D)} {t : Tv} {sb : Sv} {labs : List Nat} {me : Md} {S : List Nat} (n : Nat) (hc : X.calm = true) (hp : PassesOwn (model X.prog X.w) X.A X.env X.xe)
    (hi : EI X sc.LL Γ tg iter si labs me) (hg : EG X Γ tg (me.kindI n) t Γ1 S) (hb : SS X W { sc with LL := n :: (labs ++ sc.LL), Γc := Γ } Γ1 body sb Γ)
    (hs : ∀ x, foldedSetIterable iter X.env x = pure x := by intro _; rfl) (hn : n ≠ 0 := by decide) : SX X W sc Γ (.For tg iter body [] pos) (sFor si t sb) Γ := by
  obtain ⟨wi, pi, ki⟩ := hi
  obtain ⟨tgt, pg, kg⟩ := hg
  obtain ⟨tb, pb, kb⟩ := hb
  refine ⟨_, ps_for hp hc pi pg pb hs, fun P g ρ σ H o De s e w => ?_⟩
  obtain ⟨ds, e1, e⟩ := bind_some e
  exact for_run kg kb hn s (fun R q => ki P g ρ σ H ds R s e1 fun J H' x _ it => q J H' x it) e w
end
end VV

/-! ## VComp -/
namespace VV
open PySem PySem.Spec PyProof.Rows L2

/-! ### while -/
def whileL (c : List D → Option Bool) (b : Sv) : Nat → List D → Option Out
  | 0, _ => none
  | k + 1, ρ => match c ρ with
    | none => none
    | some false => some (.nx ρ)
    | some true => match b ρ with
      | some (.nx ρ2) => whileL c b k ρ2
      | some (.ct ρ2) => whileL c b k ρ2
      | o => o
def fuel : Nat := 1000000000
def sWhile (c : List D → Option Bool) (b : Sv) : Sv := fun ρ => whileL c b fuel ρ
theorem whileL_mono {c : List D → Option Bool} {b : Sv} {o : Out} : ∀ {n : Nat} {ρ : List D}, whileL c b n ρ = some o → ∀ {m : Nat}, n ≤ m → whileL c b m ρ = some o
  | 0, _, h, _, _ => by cases h
  | n + 1, ρ, h, 0, hm => by omega
  | n + 1, ρ, h, m + 1, hm => by
    unfold whileL at h ⊢
    cases hc : c ρ with
    | none => rw [hc] at h; cases h
    | some k =>
      rw [hc] at h
      cases k with
      | false => exact h
      | true =>
        dsimp only at h ⊢
        cases hb : b ρ with
        | none => rw [hb] at h; cases h
        | some o' =>
          rw [hb] at h
          cases o' with
          | nx ρ2 => exact whileL_mono h (by omega)
          | ct ρ2 => exact whileL_mono h (by omega)
          | rt d => exact h
          | ex c' ρ2 => exact h
section
variable {X : Cx} {W : L2.WX} {sc : Sc} {Γ Γ1 : List Kd} {pos : Pos}
theorem sx_while {c : Expr} {body : List Stmt} {s : List D → Option Bool} {sb : Sv} (hp : PassesOwn (model X.prog X.w) X.A X.env X.xe) (hc : ET X sc.LL Γ c s) (hb : SS X W { sc with Γc := Γ } Γ body sb Γ) : SX X W sc Γ (.While c body [] pos) (sWhile s sb) Γ := by
  obtain ⟨tc, pc, kc⟩ := hc
  obtain ⟨tb, pb, kb⟩ := hb
  refine ⟨_, ps_while hp pc pb, fun P g ρ σ H o De st e w => ?_⟩
  refine ⟨fun m σ' H' => ∃ ρ' g', whileL s sb m ρ' = some o ∧ Sta X.vm P sc.LL Γ g' ρ' σ' H' ∧ Step sc.LL g H g' H', ⟨fuel, ρ, g, e, st, .refl⟩, ?_⟩
  rintro m σ2 H2 ⟨ρ2, g2, e2, s2, st2⟩
  cases m with
  | zero => cases e2
  | succ k =>
    unfold whileL at e2
    cases h : s ρ2 with
    | none => rw [h] at e2; cases e2
    | some b =>
      rw [h] at e2
      refine kc P g2 ρ2 σ2 H2 b _ s2 h fun H3 x3 => ?_
      cases b with
      | false =>
        cases e2
        exact iteF (w g2 σ2 H3 (st2.trans (.ext x3)) (s2.ext x3))
      | true =>
        dsimp only at e2
        refine iteT ⟨fun σ' H' => ∃ m', m' < k + 1 ∧ ∃ ρ' g', whileL s sb m' ρ' = some o ∧ Sta X.vm P sc.LL Γ g' ρ' σ' H' ∧ Step sc.LL g H g' H', fun σ' H' h => h, ?_⟩
        cases eb : sb ρ2 with
        | none => rw [eb] at e2; cases e2
        | some o3 =>
          rw [eb] at e2
          refine kb P g2 ρ2 σ2 H3 o3 _ (s2.ext x3) eb ?_
          have st3 : Step sc.LL g H g2 H3 := st2.trans (.ext x3)
          cases o3 with
          | nx ρ5 => exact fun g5 σ5 H5 st5 s5 => ⟨k, Nat.lt_succ_self k, ρ5, g5, e2, s5, st3.trans st5⟩
          | ct ρ5 => exact fun g5 σ5 H5 st5 s5 => ⟨k, Nat.lt_succ_self k, ρ5, g5, e2, s5, st3.trans st5⟩
          | rt d => cases e2; exact fun v g' H' s' l r => w v g' H' (st3.trans s') l r
          | ex c' ρ5 => cases e2; exact fun C g' σ' H' m s' st' => w C g' σ' H' m (st3.trans s') st'
end

/-! ### list comprehensions -/
def lcL (t : Tv) (c : List D → Option Bool) (e : Ev) (ρ : List D) : List D → Option (List D)
  | [] => some []
  | x :: xs => do
    let ρ1 ← t x ρ
    let b ← c ρ1
    if b then do
      let y ← e ρ1
      let r ← lcL t c e ρ xs
      some (y :: r)
    else lcL t c e ρ xs
def eLc (it : List D → Option (List D)) (t : Tv) (c : List D → Option Bool) (e : Ev) : Ev := fun ρ => do
  let xs ← it ρ
  let ys ← lcL t c e ρ xs
  some (.lst ys)
def wipeK (Γ : List Kd) : List Nat → List Kd
  | [] => Γ
  | v :: vs => (wipeK Γ vs).set v .dead
theorem Cells.kill {mg : Mg} {P : Fm} {g : Addr → Nat} {H : Hp} {ov : Option V} : ∀ {Γ : List Kd} {ρ : List D} {σ : L2.St} (i : Nat), Cells mg P g H Γ ρ σ → Cells mg P g H (Γ.set i .dead) ρ (σ.set i ov)
  | [], [], [], _, _ => trivial
  | _ :: _, _ :: _, _ :: _, 0, h => ⟨trivial, h.2⟩
  | _ :: _, _ :: _, _ :: _, i + 1, h => ⟨h.1, Cells.kill i h.2⟩
  | [], _ :: _, _, _, h => h.elim
  | [], [], _ :: _, _, h => h.elim
  | _ :: _, [], _, _, h => h.elim
  | _ :: _, _ :: _, [], _, h => h.elim
theorem Cells.wipe {mg : Mg} {P : Fm} {g : Addr → Nat} {H : Hp} {Γ : List Kd} {ρ : List D} {σ : L2.St} (h : Cells mg P g H Γ ρ σ) : ∀ vs : List Nat, Cells mg P g H (wipeK Γ vs) ρ (wipe σ vs)
  | [] => h
  | v :: vs => Cells.kill v (Cells.wipe h vs)
def Md.lc : Md → Md
  | .flat => .al false .new [] true
  | .al _ .new [] nd => .al true .new [] nd
  | .al _ rt L _ => .al true .new (match rt with | .old n => n :: L | _ => L) false
theorem lcL_cons {t : Tv} {c : List D → Option Bool} {e : Ev} {ρ : List D} {x : D} {xs ys : List D} (h : lcL t c e ρ (x :: xs) = some ys) : ∃ ρ1 b, t x ρ = some ρ1 ∧ c ρ1 = some b ∧ ((b = true ∧ ∃ y r, e ρ1 = some y ∧ lcL t c e ρ xs = some r ∧ ys = y :: r) ∨ (b = false ∧ lcL t c e ρ xs = some ys)) := by
  unfold lcL at h
  obtain ⟨ρ1, h1, h⟩ := bind_some h
  obtain ⟨b, h2, h⟩ := bind_some h
  refine ⟨ρ1, b, h1, h2, ?_⟩
  cases b with
  | true =>
    simp only [if_true] at h
    obtain ⟨y, h3, h⟩ := bind_some h
    obtain ⟨r, h4, h⟩ := bind_some h
    cases h
    exact .inl ⟨rfl, y, r, h3, h4, rfl⟩
  | false => exact .inr ⟨rfl, by simpa using h⟩
/-- the nodes of what is made so far, seen from H -/
def AccOk (P : Fm) (g : Addr → Nat) (H H' : Hp) : Md → List Addr → Prop
  | .flat, f => f = []
  | .al _ .new [] nd, f => (∀ a ∈ f, New H H' a) ∧ (nd = true → f.Nodup)
  | .al _ rt L _, f => ∀ a ∈ f, New H H' a ∨ Old P g (match rt with | .old n => n :: L | _ => L) a
theorem AccOk.ext {P : Fm} {g : Addr → Nat} {H H1 H2 : Hp} {m : Md} {f : List Addr} (h : AccOk P g H H1 m f) (e : ∀ a ∈ f, ∀ u, H1 a = some u → H2 a = some u) : AccOk P g H H2 m f := by
  have ne : ∀ a ∈ f, New H H1 a → New H H2 a := fun a ha n => ⟨n.1, mut_of n.2 (e a ha)⟩
  cases m with
  | flat => exact h
  | al fr rt L nd =>
    cases rt with
    | new =>
      cases L with
      | nil => exact ⟨fun a ha => ne a ha (h.1 a ha), h.2⟩
      | cons x r => exact fun a ha => (h a ha).imp (ne a ha) id
    | old n => exact fun a ha => (h a ha).imp (ne a ha) id
    | unk => exact fun a ha => (h a ha).imp (ne a ha) id
theorem AccOk.nil {P : Fm} {g : Addr → Nat} {H H1 : Hp} {m : Md} : AccOk P g H H1 m [] := by
  cases m with
  | flat => rfl
  | al fr rt L nd =>
    cases rt with
    | new =>
      cases L with
      | nil => exact ⟨(fun a ha => nomatch ha), fun _ => List.nodup_nil⟩
      | cons x r => exact fun a ha => nomatch ha
    | old n => exact fun a ha => nomatch ha
    | unk => exact fun a ha => nomatch ha
/-- one more: its value was told from H1, where all of f stood -/
theorem AccOk.add {mg : Mg} {P : Fm} {LL : List Nat} {g g' : Addr → Nat} {H H1 H2 : Hp} {m : Md} {f : List Addr} {d : D} {v : V} (h : AccOk P g H H2 m f) (th : ∀ a ∈ f, H1 a ≠ none) (e : Ext H H1) (e2 : Ext H1 H2) (w : Val mg P g' H1 H2 m d v)
    (l : Loc P LL g H) (hg : ∀ a, H a ≠ none → g' a = g a) (hn : ∀ a L, H a = none → Old P g' L a → New H H2 a) : ∃ f', Rep mg H2 d v f' ∧ AccOk P g H H2 m (f ++ f') ∧ ∀ a ∈ f', New H1 H2 a ∨ ∃ L, Old P g' L a := by
  have old : ∀ {L : List Nat} {a : Addr}, Old P g' L a → New H H2 a ∨ Old P g L a := fun {L a} o => by
    by_cases h0 : H a = none
    · exact .inl (hn a L h0 o)
    · right
      unfold Old at o ⊢
      rw [hg a h0] at o
      exact o
  cases m with
  | flat =>
    obtain rfl : f = [] := h
    exact ⟨[], w, rfl, (fun a ha => nomatch ha)⟩
  | al fr rt L nd =>
    obtain ⟨f', r, o, z⟩ := w
    have last : ∀ a ∈ f', New H1 H2 a ∨ ∃ L, Old P g' L a := fun a ha => by
      rcases o a ha with ⟨_, y⟩ | ⟨_, ⟨_, y⟩ | y⟩
      · cases rt with
        | new => exact .inl y
        | old n => exact .inr ⟨_, y⟩
        | unk => exact y.elim
      · exact .inl y
      · exact .inr ⟨_, y⟩
    suffices hh : AccOk P g H H2 (.al fr rt L nd) (f ++ f') from ⟨f', r, hh, last⟩
    cases rt with
    | new =>
      cases L with
      | nil =>
        have nw : ∀ a ∈ f', New H1 H2 a := fun a ha => by
          rcases o a ha with ⟨_, y⟩ | ⟨_, ⟨_, y⟩ | y⟩
          · exact y
          · exact y
          · cases y.1
        refine ⟨fun a ha => ?_, fun hnd => List.nodup_append.mpr ⟨h.2 hnd, z.1 hnd, ?_⟩⟩
        · rcases List.mem_append.mp ha with ha | ha
          · exact h.1 a ha
          · exact (nw a ha).back e
        · intro a ha b hb hab
          subst hab
          exact th a ha (nw a hb).1
      | cons x rL =>
        intro a ha
        rcases List.mem_append.mp ha with ha | ha
        · exact h a ha
        · rcases o a ha with ⟨_, y⟩ | ⟨_, ⟨_, y⟩ | y⟩
          · exact .inl (New.back y e)
          · exact .inl (y.back e)
          · exact old y
    | old n =>
      intro a ha
      rcases List.mem_append.mp ha with ha | ha
      · exact h a ha
      · rcases o a ha with ⟨_, y⟩ | ⟨_, ⟨_, y⟩ | y⟩
        · refine old ⟨?_, y.2⟩
          rw [List.mem_singleton.mp y.1]
          exact List.mem_cons_self
        · exact .inl (y.back e)
        · exact old ⟨List.mem_cons_of_mem _ y.1, y.2⟩
    | unk =>
      intro a ha
      rcases List.mem_append.mp ha with ha | ha
      · exact h a ha
      · rcases o a ha with ⟨_, y⟩ | ⟨_, ⟨_, y⟩ | y⟩
        · exact y.elim
        · exact .inl (y.back e)
        · exact old y
theorem AccOk.val {mg : Mg} {P : Fm} {g : Addr → Nat} {H H2 : Hp} {m : Md} {f : List Addr} {ds : List D} {vs : List V} {p : Addr} (h : AccOk P g H H2 m f) (r : RepL mg H2 ds vs f) (hp : H2 p = some (.lst vs)) (hn : H p = none) (hf : p ∉ f) : Val mg P g H H2 m.lc (.lst ds) (.ref p) := by
  have nw : New H H2 p := ⟨hn, by rw [hp]; trivial⟩
  have rr : Rep mg H2 (.lst ds) (.ref p) (p :: f) := by
    simp only [Rep]
    exact ⟨p, vs, f, rfl, hp, r, rfl⟩
  have gen : ∀ (L : List Nat), (∀ a ∈ f, New H H2 a ∨ Old P g L a) → ∀ nd : Bool, (nd = true → f.Nodup) → Val mg P g H H2 (.al true .new L nd) (.lst ds) (.ref p) := fun L hh nd hnd => by
    refine ⟨p :: f, rr, fun a ha => ?_, .cons hf hnd⟩
    rcases List.mem_cons.mp ha with rfl | ha
    · exact .inl ⟨rfl, nw⟩
    · exact .inr ⟨.inl fun e => by cases e; exact hf ha, (hh a ha).imp (fun y => ⟨rfl, y⟩) id⟩
  cases m with
  | flat =>
    obtain rfl : f = [] := h
    refine ⟨[p], rr, fun a ha => ?_, .of (by simp)⟩
    rw [List.mem_singleton.mp ha]
    exact .inl ⟨rfl, nw⟩
  | al fr rt L nd =>
    cases rt with
    | new =>
      cases L with
      | nil => exact gen [] (fun a ha => .inl (h.1 a ha)) nd h.2
      | cons x r => exact gen _ h false fun z => nomatch z
    | old n => exact gen _ h false fun z => nomatch z
    | unk => exact gen _ h false fun z => nomatch z

theorem RepL.updL {mg : Mg} {H : Hp} {a : Addr} {o : HO} {us : List V} {ds : List D} {vs : List V} {f : List Addr} (h : RepL mg H ds vs f) (hn : a ∉ f) (ha : H a = some (.lst us)) : RepL mg (upd H a o) ds vs f := by
  refine h.keep (fun b hb => ?_) ⟨fun b xs r => ?_, fun b o vs r => ?_, fun b o vs r => ?_⟩
  · have : b ≠ a := fun z => hn (by rw [← z]; exact hb)
    exact ⟨fun u _ r => by unfold Rd at r ⊢; rw [upd_ne this]; exact r, fun vs r => by rw [upd_ne this]; exact r, fun _ _ _ r => by rw [upd_ne this]; exact r⟩
  · have : b ≠ a := fun z => by
      rw [z, ha] at r
      cases r
    rw [upd_ne this]
    exact r
  · have : b ≠ a := fun z => by rw [z, ha] at r; cases r
    rw [upd_ne this]
    exact r
  · have : b ≠ a := fun z => by rw [z, ha] at r; cases r
    rw [upd_ne this]
    exact r
section
variable {X : Cx} {W : L2.WX} {LL : List Nat} {Γ Γ1 : List Kd} {pos : Pos}
/-- the reading of a comprehension -/
theorem lc_read {mg : Mg} {wi : TI} {own : List (Str × Nat)} {si : List D → Option (List D)} {t : Tv} {c : List D → Option Bool} {se : Ev} {labs : List Nat} {me m2 : Md} {S : List Nat} {n : Nat} (hn : n ≠ 0) (hS : ∀ i ∈ S, i ∈ own.map (·.2))
    {P : Fm} {g : Addr → Nat} {ρ : List D} {σ : L2.St} {H : Hp} {d : D} {Q : VK} (s : Sta mg P LL Γ g ρ σ H) (e : eLc si t c se ρ = some d)
    (ki : ∀ ds (R : It → Hp → Prop), si ρ = some ds → (∀ J H', Ext H H' → ds.length ≤ sizeLine → Iter mg P g H H' J labs me ds → R J H') → wi σ H R)
    (q : ∀ v H', Ext H H' → Val mg P g H H' m2.lc d v → Q v H') :
    tLc wi (canG mg (wipeK Γ (own.map (·.2))) (me.kindI n) t Γ1 S) (canB mg LL Γ1 c) (canT mg LL Γ1 se m2) (own.map (·.2)) σ H Q := by
  obtain ⟨ds, e1, e⟩ := bind_some e
  obtain ⟨ys, e2, e⟩ := bind_some e
  cases e
  refine ki ds _ e1 fun J H1 x1 hz it => ?_
  obtain ⟨fpI, lb, walk⟩ := it
  intro Dp hD
  have s1 : Sta mg P LL Γ (relab g H H1 .non n n) ρ σ H1 := s.relab x1
  have hg1 : ∀ a, H a ≠ none → relab g H H1 .non n n a = g a := fun a h => relab_old h
  generalize eg1 : relab g H H1 .non n n = g1 at s1 hg1
  refine ⟨fun i m Hc => m = ds.length - i ∧ i ≤ ds.length ∧ ∃ done rest vs f, ys = done ++ rest ∧ lcL t c se ρ (ds.drop i) = some rest ∧ Hc Dp = some (.lst vs) ∧ vs.length ≤ i ∧ RepL mg Hc done vs f ∧ Dp ∉ f ∧ AccOk P g H Hc m2 f ∧ Ext H1 Hc,
    ⟨ds.length, rfl, Nat.zero_le _, [], ys, [], [], rfl, e2, upd_same, Nat.le_refl _, by simp [RepL], by simp, .nil, Ext.put hD⟩, ?_⟩
  rintro i m Hc ⟨rfl, hil, done, rest, vs, f, rfl, e3, hDc, hlen, rl, nD, acc, xc⟩
  obtain ⟨wk, wstop⟩ := walk Hc (xc.kept _)
  by_cases hi' : i < ds.length
  · refine .inr ?_
    obtain ⟨go, yl⟩ := wk i ds[i] (List.getElem?_eq_getElem hi')
    rw [List.drop_eq_getElem_cons hi'] at e3
    obtain ⟨ρ1, b, et, ec, hb⟩ := lcL_cons e3
    refine ⟨go, fun H' => ∃ m', m' < ds.length - i ∧ (m' = ds.length - (i + 1) ∧ i + 1 ≤ ds.length ∧ ∃ done' rest' vs f, done ++ rest = done' ++ rest' ∧ lcL t c se ρ (ds.drop (i + 1)) = some rest' ∧ H' Dp = some (.lst vs) ∧ vs.length ≤ i + 1 ∧ RepL mg H' done' vs f ∧ Dp ∉ f ∧ AccOk P g H H' m2 f ∧ Ext H1 H'), fun H' h => h, fun x H3 y => ?_⟩
    obtain ⟨x3, fx, r, of, sub⟩ := yl x H3 y
    have x13 : Ext H1 H3 := xc.trans x3
    have s3 : Sta mg P LL (wipeK Γ (own.map (·.2))) g1 ρ (wipe σ (own.map (·.2))) H3 := ⟨s1.loc.ext x13, Cells.wipe (s1.ext x13).cells _⟩
    refine ⟨P, LL, g1, ρ, ds[i], ρ1, s3, fps_cell s.loc r of hn (fun a ha => by rw [eg1]), et, fun σ4 s4 w4 => ⟨?_, ?_⟩⟩
    · rw [w4 _ hS]
      -- wiping twice
      apply List.ext_getElem?
      intro j
      rw [wipe_get, wipe_get]
      split
      · cases σ[j]? <;> rfl
      · rfl
    refine ⟨P, g1, ρ1, b, s4, ec, fun H4 x4 => ?_⟩
    have x34 : Ext Hc H4 := x3.trans x4
    rcases hb with ⟨rfl, y', r', ey, er, rfl⟩ | ⟨rfl, er⟩
    · refine iteT ⟨P, g1, ρ1, y', s4.ext x4, ey, fun v5 H5 x5 w5 => ?_⟩
      have x35 : Ext Hc H5 := x34.trans x5
      have hD5 : H5 Dp = some (.lst vs) := x35 _ _ hDc
      have x05 : Ext H H4 := x1.trans (xc.trans x34)
      obtain ⟨f', rf', acc', last⟩ := AccOk.add (mg := mg) (LL := LL) (acc.ext fun a ha u h => x35 a u h) (fun a ha z => rl.there a ha (x34.nope z)) x05 x5 w5 s.loc hg1 fun a L h0 o => by
        refine ⟨h0, ?_⟩
        by_cases hz0 : g1 a = 0
        · exact absurd h0 (s.loc.out a (o.2 hz0))
        · obtain ⟨u, eu, mu | fu⟩ := s1.loc.at_ a hz0
          · have := (xc.trans (x34.trans x5)) a u eu
            rw [this]; exact mu
          · exact absurd h0 (s.loc.fzn fu)
      have hDf' : Dp ∉ f' := fun hm => by
        rcases last Dp hm with y | ⟨L, y⟩
        · have := y.1
          rw [x34 _ _ hDc] at this
          cases this
        · exact y.there s1.loc hD
      have nDf : Dp ∉ f ++ f' := fun hm => (List.mem_append.mp hm).elim nD hDf'
      refine ⟨vs, hD5, Nat.lt_of_le_of_lt hlen (Nat.lt_of_lt_of_le hi' hz), _, by omega, rfl, hi', done ++ [y'], r', vs ++ [v5], f ++ f', by simp, er, upd_same, by simp; omega, ?_, nDf, ?_, ?_⟩
      · exact ((rl.ext x35).append (.one rf')).updL nDf hD5
      · exact acc'.ext fun a ha u h => by rw [upd_ne (fun z => nDf (by rw [← z]; exact ha))]; exact h
      · intro a u h
        rw [upd_ne (ne_of_none h hD)]
        exact x35 a u (xc a u h)
    · refine iteF ⟨_, by omega, rfl, hi', done, rest, vs, f, rfl, er, x34 _ _ hDc, Nat.le_succ_of_le hlen, rl.ext x34, nD, acc.ext fun a ha u h => x34 a u h, xc.trans x34⟩
  · have : i = ds.length := by omega
    subst this
    refine .inl ⟨wstop, ?_⟩
    rw [List.drop_length] at e3
    cases e3
    have w := acc.val rl hDc (x1.nope hD) nD
    rw [← List.append_nil done] at w
    exact q _ Hc (x1.trans xc) w
theorem ex_lc {elt tg iter : Expr} {ifs : List Expr} {scope : Scope} {own : List (Str × Nat)} {si : List D → Option (List D)} {t : Tv} {c : List D → Option Bool} {se : Ev} {labs : List Nat} {me m2 : Md} {S : List Nat} (n : Nat)
    (hc : X.calm = true) (hN : X.N.Nodup) (hi : EI X LL Γ tg iter si labs me) (ok : BlkOk X.N X.env.scope scope own)
    (hg : ∀ (s : Shared) (H : Hp) (C : Addr) (cl : List (Str × Addr)) (fp : List Addr), EG (X.blk s H scope (compEnvC scope cl C X.env) fp) (wipeK Γ (own.map (·.2))) tg (me.kindI n) t Γ1 S)
    (ht : ∀ (s : Shared) (H : Hp) (C : Addr) (cl : List (Str × Addr)) (fp : List Addr), ETs (X.blk s H scope (compEnvC scope cl C X.env) fp) LL Γ1 ifs c)
    (he : ∀ (s : Shared) (H : Hp) (C : Addr) (cl : List (Str × Addr)) (fp : List Addr), EX (X.blk s H scope (compEnvC scope cl C X.env) fp) LL Γ1 elt se m2)
    (hS : ∀ i ∈ S, i ∈ own.map (·.2) := by decide) (hs : ∀ x, foldedSetIterable iter X.env x = pure x := by intro _; rfl) (hn : n ≠ 0 := by decide) :
    EX X LL Γ (.ListComp elt [⟨tg, iter, ifs, 0⟩] scope pos) (eLc si t c se) m2.lc := by
  obtain ⟨wi, pi, ki⟩ := hi
  refine ⟨_, pe_lc (g := canG X.vm (wipeK Γ (own.map (·.2))) (me.kindI n) t Γ1 S) (tt := canB X.vm LL Γ1 c) (te := canT X.vm LL Γ1 se m2) hc hN pi ok (fun s H C cl fp => eg_can (hg s H C cl fp)) (fun s H C cl fp => ets_can (ht s H C cl fp)) (fun s H C cl fp => ex_can (he s H C cl fp)) hs, fun P g ρ σ H d Q s e q => ?_⟩
  exact lc_read hn hS s e (fun ds R h => ki P g ρ σ H ds R s h) q
theorem sx_setLc {i : Nat} {y : Str} {py : Pos} {spos : Pos} {sc : Sc} {elt tg iter : Expr} {ifs : List Expr} {scope : Scope} {own : List (Str × Nat)} {si : List D → Option (List D)} {t : Tv} {c : List D → Option Bool} {se : Ev} {labs : List Nat} {me m2 : Md} {S : List Nat} (n n' k' : Nat)
    (hc : X.calm = true) (hN : X.N.Nodup) (hy : X.N[i]? = some y) (hyl : X.env.scope.names.lookup y = some .local)
    (hsw : swapsWith (.ListComp elt [⟨tg, iter, ifs, 0⟩] scope pos) (some (.Name y py)) spos.line X.env = pure true) (hi : EI X sc.LL Γ tg iter si labs me) (ok : BlkOk X.N X.env.scope scope own)
    (hg : ∀ (s : Shared) (H : Hp) (C : Addr) (cl : List (Str × Addr)) (fp : List Addr), EG (X.blk s H scope (compEnvC scope cl C X.env) fp) (wipeK Γ (own.map (·.2))) tg (me.kindI n) t Γ1 S)
    (ht : ∀ (s : Shared) (H : Hp) (C : Addr) (cl : List (Str × Addr)) (fp : List Addr), ETs (X.blk s H scope (compEnvC scope cl C X.env) fp) sc.LL Γ1 ifs c)
    (he : ∀ (s : Shared) (H : Hp) (C : Addr) (cl : List (Str × Addr)) (fp : List Addr), EX (X.blk s H scope (compEnvC scope cl C X.env) fp) sc.LL Γ1 elt se m2)
    (hS : ∀ i ∈ S, i ∈ own.map (·.2) := by decide) (hs : ∀ x, foldedSetIterable iter X.env x = pure x := by intro _; rfl) (hn : n ≠ 0 := by decide) (h1 : n' ≠ 0 := by decide) (h2 : k' ≠ 0 := by decide) :
    SX X W sc Γ (.Assign [.Name y py] (.ListComp elt [⟨tg, iter, ifs, 0⟩] scope pos) spos) (sSet i (eLc si t c se)) (Γ.set i (m2.lc.kind n' k')) := by
  obtain ⟨wi, pi, ki⟩ := hi
  refine ⟨_, ps_setLc (g := canG X.vm (wipeK Γ (own.map (·.2))) (me.kindI n) t Γ1 S) (tt := canB X.vm sc.LL Γ1 c) (te := canT X.vm sc.LL Γ1 se m2) hc hN hy hyl hsw pi ok (fun s H C cl fp => eg_can (hg s H C cl fp)) (fun s H C cl fp => ets_can (ht s H C cl fp)) (fun s H C cl fp => ex_can (he s H C cl fp)) hs, fun P g ρ σ H o De s e w => ?_⟩
  obtain ⟨d, e1, e⟩ := bind_some e
  cases e
  refine lc_read hn hS s e1 (fun ds R h => ki P g ρ σ H ds R s h) fun v H' x vl => ?_
  exact w (relab g H H' v n' k') _ H' (.relab x) ⟨s.loc.relab x, Cells.set i (s.cells.relab s.loc x) (vl.cell s.loc h1 h2)⟩
end
end VV

/-! ## VList -/
namespace VV
open PySem PySem.Spec PyProof.Rows L2

/-! ### parts of lists -/
section
variable {mg : Mg} {H : Hp}
theorem RepL.splitAt : ∀ {ds : List D} {vs : List V} {f : List Addr} (n : Nat), RepL mg H ds vs f → ∃ f1 f2, f = f1 ++ f2 ∧ RepL mg H (ds.take n) (vs.take n) f1 ∧ RepL mg H (ds.drop n) (vs.drop n) f2
  | ds, vs, f, 0, h => ⟨[], f, rfl, by simp [RepL], by simpa using h⟩
  | [], _, _, n + 1, h => by
    simp only [RepL] at h
    obtain ⟨rfl, rfl⟩ := h
    exact ⟨[], [], rfl, by simp [RepL], by simp [RepL]⟩
  | d :: ds, _, _, n + 1, h => by
    simp only [RepL] at h
    obtain ⟨v, r, f1, f2, rfl, h1, h2, rfl⟩ := h
    obtain ⟨g1, g2, rfl, a, b⟩ := RepL.splitAt n h2
    refine ⟨f1 ++ g1, g2, by simp, ?_, by simpa using b⟩
    simp only [List.take_succ_cons, RepL]
    exact ⟨v, _, f1, g1, rfl, h1, a, rfl⟩
def cutG {α : Type} (xs : List α) (lo hi : Option Int) : List α := (xs.drop (HT.sIx xs.length 0 lo)).take (HT.sIx xs.length xs.length hi - HT.sIx xs.length 0 lo)
theorem RepL.cut {ds : List D} {vs : List V} {f : List Addr} (lo hi : Option Int) (h : RepL mg H ds vs f) : ∃ f1 f' f2, f = f1 ++ f' ++ f2 ∧ RepL mg H (cutG ds lo hi) (cutV vs lo hi) f' := by
  unfold cutG cutV
  rw [h.length]
  obtain ⟨f1, g, rfl, _, b⟩ := h.splitAt (HT.sIx ds.length 0 lo)
  obtain ⟨g1, g2, rfl, c, _⟩ := b.splitAt (HT.sIx ds.length ds.length hi - HT.sIx ds.length 0 lo)
  exact ⟨f1, g1, g2, by simp, c⟩
theorem RepL.flats : ∀ {ds : List D} {vs : List V} {f : List Addr}, RepL mg H ds vs f → D.isFlatL ds = true → RepL mg H ds vs [] := fun h e => by
  have := h.flat e
  subst this
  exact h
end
/-- what a list or tuple has -/
theorem seq_of {mg : Mg} {P : Fm} {g : Addr → Nat} {H H1 : Hp} {m : Md} {l : List D} {v : V} (h : Val mg P g H H1 m (.lst l) v) : ∃ a vs, v = .ref a ∧ H1 a = some (.lst vs) ∧ vs.length = l.length ∧ (∀ lo hi, ValL mg P g H H1 m.child (cutG l lo hi) (cutV vs lo hi)) ∧ ValL mg P g H H1 m.child l vs := by
  obtain ⟨fp, r, o, lb, ch⟩ := h.labs
  simp only [Rep] at r
  obtain ⟨a, vs, f, rfl, ha, h2, rfl⟩ := r
  refine ⟨a, vs, rfl, ha, h2.length, fun lo hi => ?_, ?_⟩
  · obtain ⟨f1, f', f2, rfl, r'⟩ := h2.cut lo hi
    exact ⟨f', r', ch f' ⟨f1, f2, .inl ⟨a, rfl, rfl⟩⟩⟩
  · exact ⟨f, h2, ch f ⟨[], [], .inl ⟨a, rfl, by simp⟩⟩⟩
theorem seq_ofT {mg : Mg} {P : Fm} {g : Addr → Nat} {H H1 : Hp} {m : Md} {l : List D} {v : V} (h : Val mg P g H H1 m (.tup l) v) : ∃ a vs, v = .ref a ∧ H1 a = some (.tup vs) ∧ vs.length = l.length ∧ (∀ lo hi, ValL mg P g H H1 m.child (cutG l lo hi) (cutV vs lo hi)) ∧ ValL mg P g H H1 m.child l vs := by
  obtain ⟨fp, r, o, lb, ch⟩ := h.labs
  have r0 := r
  simp only [Rep] at r
  obtain ⟨a, vs, rfl, ha, h2⟩ := r
  have nt : ∀ b, V.ref a = .ref b → b ∉ fp := fun b e => by cases e; exact r0.notup (.inl ha)
  refine ⟨a, vs, rfl, ha, h2.length, fun lo hi => ?_, ?_⟩
  · obtain ⟨f1, f', f2, rfl, r'⟩ := h2.cut lo hi
    exact ⟨f', r', ch f' ⟨f1, f2, .inr ⟨rfl, nt⟩⟩⟩
  · exact ⟨fp, h2, ch fp ⟨[], [], .inr ⟨by simp, nt⟩⟩⟩

/-! ### slices -/
def EO (X : Cx) (LL : List Nat) (Γ : List Kd) (e : Option Expr) (sem : List D → Option (Option Int)) : Prop :=
  ∃ t, PO X e t ∧ ∀ P g ρ σ H r Q, Sta X.vm P LL Γ g ρ σ H → sem ρ = some r → (∀ H', Ext H H' → Q r H') → t σ H Q
def oNone : List D → Option (Option Int) := fun _ => some none
def oSome (s : Ev) : List D → Option (Option Int) := fun ρ => do match (← s ρ) with
  | .int i => some (some i)
  | _ => none
def dSl : D → Option Int → Option Int → Option D
  | .lst l, lo, hi => some (.lst (cutG l lo hi))
  | .scr l, lo, hi => some (.lst (cutG l lo hi))
  | .tup l, lo, hi => some (.tup (cutG l lo hi))
  | .str z, lo, hi => if z.length ≤ sizeLine then some (.str (cutS z lo hi)) else none
  | _, _, _ => none
def eSl (s : Ev) (lo hi : List D → Option (Option Int)) : Ev := fun ρ => do
  let d ← s ρ
  let l ← lo ρ
  let h ← hi ρ
  dSl d l h
section
variable {X : Cx} {LL : List Nat} {Γ : List Kd} {pos p2 : Pos} {e : Expr} {se : Ev} {m : Md} {lo hi : Option Expr} {sl sh : List D → Option (Option Int)}
theorem eo_none : EO X LL Γ none oNone := ⟨_, po_none, fun P g ρ σ H r Q s e q => by cases e; exact q H Ext.refl⟩
theorem eo_some (h : EX X LL Γ e se m) : EO X LL Γ (some e) (oSome se) := by
  obtain ⟨t, p, k⟩ := h
  refine ⟨_, po_some p, fun P g ρ σ H r Q s e q => ?_⟩
  obtain ⟨d, e1, e⟩ := bind_some e
  refine k P g ρ σ H d _ s e1 fun v H' x w => ?_
  obtain ⟨fp, rr, _⟩ := w.labs
  split at e
  · cases e
    obtain rfl := rInt rr
    exact ⟨_, rfl, q H' x⟩
  · cases e
theorem slice_parts (he : EX X LL Γ e se m) (hl : EO X LL Γ lo sl) (hh : EO X LL Γ hi sh) : ∃ te tl th, PE X e te ∧ PO X lo tl ∧ PO X hi th ∧ ∀ (P : Fm) g ρ σ H (Q : V → Option Int → Option Int → Hp → Prop) d l h, Sta X.vm P LL Γ g ρ σ H → se ρ = some d → sl ρ = some l → sh ρ = some h →
    (∀ v H', Ext H H' → Val X.vm P g H H' m d v → Q v l h H') → te σ H fun x H1 => tl σ H1 fun l H2 => th σ H2 fun u H3 => Q x l u H3 := by
  obtain ⟨te, pe, ke⟩ := he
  obtain ⟨tl, pl, kl⟩ := hl
  obtain ⟨th, ph, kh⟩ := hh
  refine ⟨te, tl, th, pe, pl, ph, fun P g ρ σ H Q d l h s e1 e2 e3 q => ?_⟩
  refine ke P g ρ σ H d _ s e1 fun v H1 x1 w => ?_
  refine kl P g ρ σ H1 l _ (s.ext x1) e2 fun H2 x2 => ?_
  refine kh P g ρ σ H2 h _ (s.ext (x1.trans x2)) e3 fun H3 x3 => ?_
  exact q v H3 (x1.trans (x2.trans x3)) (w.ext (x2.trans x3))
/-- of a list -/
theorem ex_slL (he : EX X LL Γ e se m) (hl : EO X LL Γ lo sl) (hh : EO X LL Γ hi sh) : EX X LL Γ (.Subscript e (.Slice lo hi none p2) pos) (eSl (eChk D.isLst se) sl sh) m.child.lst := by
  obtain ⟨te, tl, th, pe, pl, ph, k⟩ := slice_parts he hl hh
  refine ⟨_, pe_slice sl_list pe pl ph, fun P g ρ σ H d Q s e q => ?_⟩
  obtain ⟨d0, e1, e⟩ := bind_some e
  obtain ⟨l, e2, e⟩ := bind_some e
  obtain ⟨h, e3, e⟩ := bind_some e
  obtain ⟨e1, hc⟩ := Option.filter_eq_some_iff.mp e1
  refine k P g ρ σ H (fun x l u H3 => rSlL X.K x l u H3 Q) d0 l h s e1 e2 e3 fun v H' x w => ?_
  cases d0 with
  | lst ds =>
    cases e
    obtain ⟨a, vs, rfl, ha, _, cut, _⟩ := seq_of w
    exact ⟨a, vs, rfl, SqL.of ha, fun p hp => q _ _ (x.trans (Ext.put hp)) (val_lst (cut l h) x hp)⟩
  | _ => cases hc
/-- a tuple that stands already -/
theorem val_tup_at {mg : Mg} {P : Fm} {g : Addr → Nat} {H H1 : Hp} {m : Md} {ds : List D} {vs : List V} {p : Addr} (h : ValL mg P g H H1 m ds vs) (hp : H1 p = some (.tup vs)) : Val mg P g H H1 m.tup (.tup ds) (.ref p) := by
  obtain ⟨fp, r, q⟩ := h
  have rr : Rep mg H1 (.tup ds) (.ref p) fp := by
    simp only [Rep]
    exact ⟨p, vs, rfl, hp, r⟩
  cases m with
  | flat =>
    obtain rfl : fp = [] := q
    exact rr
  | al fr rt L nd => exact ⟨fp, rr, fun a ha => .inr ⟨.inr rfl, q.1 a ha⟩, .unk q.2⟩
theorem cutG_whole {α : Type} {l : List α} {lo hi : Option Int} (h : HT.sIx l.length 0 lo = 0 ∧ HT.sIx l.length l.length hi = l.length) : cutG l lo hi = l := by
  unfold cutG
  rw [h.1, h.2]
  simp
theorem ex_slT (he : EX X LL Γ e se m) (hl : EO X LL Γ lo sl) (hh : EO X LL Γ hi sh) : EX X LL Γ (.Subscript e (.Slice lo hi none p2) pos) (eSl (eChk D.isTup se) sl sh) m.child.tup := by
  obtain ⟨te, tl, th, pe, pl, ph, k⟩ := slice_parts he hl hh
  refine ⟨_, pe_slice sl_tupA pe pl ph, fun P g ρ σ H d Q s e q => ?_⟩
  obtain ⟨d0, e1, e⟩ := bind_some e
  obtain ⟨l, e2, e⟩ := bind_some e
  obtain ⟨h, e3, e⟩ := bind_some e
  obtain ⟨e1, hc⟩ := Option.filter_eq_some_iff.mp e1
  refine k P g ρ σ H (fun x l u H3 => rSlA X.K x l u H3 Q) d0 l h s e1 e2 e3 fun v H' x w => ?_
  cases d0 with
  | tup ds =>
    cases e
    obtain ⟨a, vs, rfl, ha, hlen, cut, whole⟩ := seq_ofT w
    refine ⟨a, vs, rfl, .inl (.inl ha), fun hw => ?_, fun hw p hp => q _ _ (x.trans (Ext.put hp)) (val_tup (cut l h) hp)⟩
    rw [hlen] at hw
    rw [cutG_whole hw] at q
    exact q _ _ x (val_tup_at whole ha)
  | _ => cases hc
end

/-! ### [x] * n, a + b, list(a), tuple(a) -/
def dRep : List D → Option D
  | [.lst l, .int k] => if D.isFlatL l ∧ -1000000 ≤ k ∧ k ≤ 1000000 ∧ l.length * k.toNat ≤ 1000000 then some (.lst (List.replicate k.toNat l).flatten) else none
  | _ => none
def dCatF : List D → Option D
  | [.lst l, .lst r] => if D.isFlatL l ∧ D.isFlatL r ∧ l.length + r.length ≤ 1000000 then some (.lst (l ++ r)) else none
  | _ => none
theorem line_of {n : Nat} (h : n ≤ 1000000) : n ≤ sizeLine := by rw [sizeLine_eq]; omega
section
variable {X : Cx} {LL : List Nat} {Γ : List Kd} {pos p : Pos} {a b : Expr} {sa sb : Ev} {ma mb : Md}
theorem ex_catF (ha : EX X LL Γ a sa ma) (hb : EX X LL Γ b sb mb) : EX X LL Γ (.BinOp a .Add b pos) (eP dCatF (aCons sa (aCons sb aNil))) (.al false .new [] true) := by
  obtain ⟨ta, tb, pa, pb, k⟩ := two ha hb
  refine ⟨_, pe_op op_cat pa pb, fun P g ρ σ H d Q s e q => ?_⟩
  obtain ⟨ds, e1, e⟩ := bind_some e
  refine k P g ρ σ H ds _ s e1 fun d1 d2 v w H' eds x va vb vl => ?_
  subst eds
  unfold dCatF at e
  split at e
  · split at e
    · rename_i l r eq hc
      cases eq
      cases e
      obtain ⟨c, vs, rfl, hv, hlen, _, fl, rl, _⟩ := seq_of va
      obtain ⟨c', vs', rfl, hv', hlen', _, fl', rl', _⟩ := seq_of vb
      refine ⟨c, c', vs, vs', rfl, rfl, hv, hv', ?_, fun p hp => ?_⟩
      · rw [hlen, hlen']; exact line_of hc.2.2
      · exact q _ _ (x.trans (Ext.put hp)) (val_lst (m := .flat) ⟨[], (rl.flats hc.1).append (rl'.flats hc.2.1), rfl⟩ x hp)
    · cases e
  · cases e
/-- list(e) -/
def dList : List D → Option D
  | [.lst l] => some (.lst l)
  | [.tup l] => some (.lst l)
  | _ => none
/-- calls of one argument by its own value -/
theorem one_arg {sem : Ev} {m : Md} {t : TE} {P : Fm} {g : Addr → Nat} {ρ : List D} {σ : L2.St} {H : Hp} {ds : List D} {Q : List V → Hp → Prop}
    (k : ∀ P g ρ σ H d Q, Sta X.vm P LL Γ g ρ σ H → sem ρ = some d → (∀ v H', Ext H H' → Val X.vm P g H H' m d v → Q v H') → t σ H Q)
    (s : Sta X.vm P LL Γ g ρ σ H) (e1 : aCons sem aNil ρ = some ds) (q : ∀ d v H', ds = [d] → Ext H H' → Val X.vm P g H H' m d v → Q [v] H') : tCons t tNil σ H Q := by
  obtain ⟨d, e2, e1⟩ := bind_some e1
  obtain ⟨r, e3, e1⟩ := bind_some e1
  cases e3
  cases e1
  exact k P g ρ σ H d _ s e2 fun v H' x w => q d v H' rfl x w
theorem ex_list {x : Str} (hg : Gl X x) (hm : X.mg x = none) (hv : bootBuiltins x = some (.type "list")) (ha : EX X LL Γ a sa ma) (hn : x ≠ "__name__" := by decide) (hdb : (x == ("__debug__" : Str)) = false := by decide)
    (he : starEach [a] X.env = (false, eval a X.env) :: starEach [] X.env := by rfl) : EX X LL Γ (.Call (.Name x p) [a] [] pos) (eP dList (aCons sa aNil)) ma.child.lst := by
  obtain ⟨t, pt, k⟩ := ha
  refine ⟨_, pe_callTy call_list_of hg hm hv (pa_cons pt pa_nil he) hn hdb he, fun P g ρ σ H d Q s e q => ?_⟩
  obtain ⟨ds, e1, e⟩ := bind_some e
  refine one_arg k s e1 fun d0 v H1 eds x1 w => ?_
  subst eds
  cases d0 with
  | lst l =>
    cases e
    obtain ⟨c, vs, rfl, hv, _, _, vl⟩ := seq_of w
    exact ⟨c, vs, rfl, .inl (SqL.of hv), fun p hp => q _ _ (x1.trans (Ext.put hp)) (val_lst vl x1 hp)⟩
  | tup l =>
    cases e
    obtain ⟨c, vs, rfl, hv, _, _, vl⟩ := seq_ofT w
    exact ⟨c, vs, rfl, .inr (.inl (.inl hv)), fun p hp => q _ _ (x1.trans (Ext.put hp)) (val_lst vl x1 hp)⟩
  | _ => cases e
end

/-! ### numbers from numbers, bools, lists -/
def dIntC : List D → Option D
  | [.int i] => some (.int i)
  | [.bl b] => some (.int (if b then 1 else 0))
  | _ => none
def dAbs : List D → Option D
  | [.int i] => some (.int (if i < 0 then -i else i))
  | _ => none
def dMin2 : List D → Option D
  | [.int i, .int j] => some (.int (if j < i then j else i))
  | _ => none
def boolsOf : List D → Option (List Bool)
  | [] => some []
  | .bl i :: r => (boolsOf r).map (i :: ·)
  | _ :: _ => none
theorem boolsOf_rep {mg : Mg} {H : Hp} : ∀ {l : List D} {ns : List Bool} {vs : List V} {f : List Addr}, boolsOf l = some ns → RepL mg H l vs f → vs = ns.map V.bl
  | [], _, _, _, e, h => by simp only [RepL] at h; cases e; rw [h.1]; rfl
  | d :: r, _, _, _, e, h => by
    simp only [RepL] at h
    obtain ⟨v, vr, f1, f2, rfl, h1, h2, _⟩ := h
    unfold boolsOf at e
    split at e
    · rename_i eq; cases eq
    · rename_i eq
      cases eq
      obtain ⟨ns, e1, rfl⟩ := Option.map_eq_some_iff.mp e
      rw [rBl h1, boolsOf_rep e1 h2]; rfl
    · cases e
def itemsOf : D → Option (List D)
  | .lst l => some l
  | .scr l => some l
  | _ => none
def dAll : List D → Option D
  | [d] => do some (.bl ((← boolsOf (← itemsOf d)).all id))
  | _ => none
section
variable {X : Cx}
theorem items_sq {mg : Mg} {H : Hp} {d : D} {l : List D} {v : V} {f : List Addr} (e : itemsOf d = some l) (h : Rep mg H d v f) : ∃ a vs f', v = .ref a ∧ SqL mg.K H a vs ∧ RepL mg H l vs f' := by
  cases d with
  | lst l' =>
    cases e
    simp only [Rep] at h
    obtain ⟨a, vs, f', rfl, ha, h2, _⟩ := h
    exact ⟨a, vs, f', rfl, SqL.of ha, h2⟩
  | scr l' =>
    cases e
    simp only [Rep] at h
    obtain ⟨a, vs, rfl, ha, h2, _⟩ := h
    exact ⟨a, vs, [], rfl, ha.sq, h2⟩
  | _ => cases e
theorem cp_int1 : CP X (fun xs H Q => (∃ i, xs = [.int i] ∧ Q (.int i) H) ∨ ∃ k, xs = [.bl k] ∧ Q (.int (if k then 1 else 0)) H) dIntC toFlat := by
  intro P LL g H H1 m ds vs d Q l x vl e q
  obtain ⟨fp, r⟩ := vl.rep
  unfold dIntC at e
  split at e
  · cases e
    obtain ⟨v, rfl, h⟩ := repL1 r
    exact .inl ⟨_, by rw [rInt h], q _ H1 Ext.refl (val_flat rep_int)⟩
  · cases e
    obtain ⟨v, rfl, h⟩ := repL1 r
    exact .inr ⟨_, by rw [rBl h], q _ H1 Ext.refl (val_flat rep_int)⟩
  · cases e
theorem cp_abs : CP X (fun xs H Q => ∃ i, xs = [.int i] ∧ Q (.int (if i < 0 then -i else i)) H) dAbs toFlat := by
  intro P LL g H H1 m ds vs d Q l x vl e q
  obtain ⟨fp, r⟩ := vl.rep
  unfold dAbs at e
  split at e
  · cases e
    obtain ⟨v, rfl, h⟩ := repL1 r
    exact ⟨_, by rw [rInt h], q _ H1 Ext.refl (val_flat rep_int)⟩
  · cases e
theorem cp_min2 : CP X (fun xs H Q => ∃ i j, xs = [.int i, .int j] ∧ Q (.int (if j < i then j else i)) H) dMin2 toFlat := by
  intro P LL g H H1 m ds vs d Q l x vl e q
  obtain ⟨fp, r⟩ := vl.rep
  unfold dMin2 at e
  split at e
  · cases e
    obtain ⟨v, w, _, _, rfl, h, h2, _⟩ := repL2 r
    exact ⟨_, _, by rw [rInt h, rInt h2], q _ H1 Ext.refl (val_flat rep_int)⟩
  · cases e
theorem cp_all : CP X (rAll X.K) dAll toFlat := by
  intro P LL g H H1 m ds vs d Q l x vl e q
  obtain ⟨fp, r⟩ := vl.rep
  unfold dAll at e
  split at e
  · obtain ⟨its, e2, e⟩ := bind_some e
    obtain ⟨ns, e1, e⟩ := bind_some e
    cases e
    obtain ⟨v, rfl, h⟩ := repL1 r
    obtain ⟨a, us, f', rfl, sq, rl⟩ := items_sq e2 h
    rw [boolsOf_rep e1 rl] at sq
    exact ⟨a, ns, rfl, sq, q _ H1 Ext.refl (val_flat rep_bl)⟩
  · cases e
end
end VV

/-! ## VMut -/
namespace VV
open PySem PySem.Spec PyProof.Rows L2

/-! ### zip, enumerate -/
def Md.pair : Md → Md → Md
  | .flat, .flat => .flat
  | .al fr _ L _, .flat => .al fr .unk L false
  | .flat, .al fr _ L _ => .al fr .unk L false
  | .al fr _ L _, .al fr' _ L' _ => .al (fr || fr') .unk (L ++ L') false
theorem fps_pair {P : Fm} {g : Addr → Nat} {H H1 : Hp} {m m' : Md} {f f' : List Addr} (h : Fps P g H H1 m f) (h' : Fps P g H H1 m' f') : Fps P g H H1 (m.pair m') (f ++ f') := by
  cases m with
  | flat =>
    obtain rfl : f = [] := h
    cases m' with
    | flat => exact h'
    | al fr rt L nd => exact ⟨h'.1, fun z => nomatch z⟩
  | al fr rt L nd =>
    cases m' with
    | flat =>
      obtain rfl : f' = [] := h'
      rw [List.append_nil]
      exact ⟨h.1, fun z => nomatch z⟩
    | al fr' rt' L' nd' =>
      refine ⟨fun a ha => ?_, fun z => nomatch z⟩
      rcases List.mem_append.mp ha with ha | ha
      · exact (h.1 a ha).imp (fun ⟨x, y⟩ => ⟨by rw [x]; rfl, y⟩) fun o => ⟨List.mem_append_left _ o.1, o.2⟩
      · exact (h'.1 a ha).imp (fun ⟨x, y⟩ => ⟨by rw [x]; cases fr <;> rfl, y⟩) fun o => ⟨List.mem_append_right _ o.1, o.2⟩
def iZipL (a : List D → Option (List D)) : List D → Option (List D) := fun ρ => do match (← a ρ) with
  | [.lst l, .lst r] => some ((l.zip r).map fun p => .tup [p.1, p.2])
  | _ => none
def iEnumL (s : Ev) : List D → Option (List D) := fun ρ => do match (← s ρ) with
  | .lst l => some (l.mapIdx fun i d => .tup [.int i, d])
  | _ => none
/-- a list's nodes, and each item's -/
theorem lst_nodes {mg : Mg} {P : Fm} {g : Addr → Nat} {H H1 : Hp} {m : Md} {l : List D} {v : V} (h : Val mg P g H H1 m (.lst l) v) : ∃ (a : Addr) (vs : List V) (fp : List Addr), v = .ref a ∧ H1 a = some (.lst vs) ∧ vs.length = l.length ∧ (∀ b ∈ fp, New H H1 b ∨ Old P g m.labs b) ∧ a ∈ fp ∧
    ∀ (i : Nat) (d : D), l[i]? = some d → ∃ x f, vs[i]? = some x ∧ Rep mg H1 d x f ∧ Fps P g H H1 m.child f ∧ ∀ b ∈ f, b ∈ fp := by
  obtain ⟨fp, r, o, lb, ch⟩ := h.labs
  simp only [Rep] at r
  obtain ⟨a, vs, f, rfl, ha, h2, rfl⟩ := r
  refine ⟨a, vs, _, rfl, ha, h2.length, lb, List.mem_cons_self, fun i d e => ?_⟩
  obtain ⟨x, fi, e1, ri, f1, f2, rfl⟩ := h2.parts e
  exact ⟨x, fi, e1, ri, ch fi ⟨f1, f2, .inl ⟨a, rfl, rfl⟩⟩, fun b hb => List.mem_cons_of_mem _ (List.mem_append_left _ (List.mem_append_right _ hb))⟩
section
variable {X : Cx} {LL : List Nat} {Γ : List Kd} {pos p tpos : Pos} {a b : Expr} {sa sb : Ev} {ma mb : Md} {elts : List Expr} {kk : Nat}
theorem ei_zip (hg : Gl X "zip") (hm : X.mg "zip" = none) (ha : EX X LL Γ a sa ma) (hb : EX X LL Γ b sb mb)
    (hs : starEach [a, b] X.env = (false, eval a X.env) :: starEach [b] X.env := by rfl) (hpl : (backTo pos (starEach [b] X.env)).any (·.1) = false := by rfl) (hs2 : starEach [b] X.env = (false, eval b X.env) :: starEach [] X.env := by rfl) :
    EI X LL Γ (.Tuple elts kk tpos) (.Call (.Name "zip" p) [a, b] [] pos) (iZipL (aCons sa (aCons sb aNil))) (ma.labs ++ mb.labs) (ma.child.pair mb.child) := by
  obtain ⟨ta, tb, pa, pb, k⟩ := two ha hb
  refine ⟨_, pi_sized (pi_zip hg hm (pa_cons pa (pa_cons pb pa_nil hs2) hs) hs hpl), fun P g ρ σ H ds R s e q => ?_⟩
  obtain ⟨ds0, e1, e⟩ := bind_some e
  refine k P g ρ σ H ds0 _ s e1 fun d1 d2 v w H' eds x va vb vl => ?_
  subst eds
  split at e
  · rename_i l r eq
    cases eq
    cases e
    obtain ⟨a1, vs1, f1, rfl, h1, n1, lb1, m1, it1⟩ := lst_nodes va
    obtain ⟨a2, vs2, f2, rfl, h2, n2, lb2, m2, it2⟩ := lst_nodes vb
    refine ⟨a1, a2, vs1, vs2, rfl, SqL.of h1, SqL.of h2, fun sz => q _ H' x ?_ ⟨f1 ++ f2, fun c hc => ?_, fun H2 kp => ⟨fun i d hi => ?_, ?_⟩⟩⟩
    · rw [List.length_map, List.length_zip, ← n1]
      exact Nat.le_trans (Nat.min_le_left _ _) (sz.1 a1 vs1 (SqL.of h1))
    · rcases List.mem_append.mp hc with hc | hc
      · exact (lb1 c hc).imp id fun o => ⟨List.mem_append_left _ o.1, o.2⟩
      · exact (lb2 c hc).imp id fun o => ⟨List.mem_append_right _ o.1, o.2⟩
    · rw [List.getElem?_map] at hi
      obtain ⟨pr, e3, rfl⟩ := Option.map_eq_some_iff.mp hi
      obtain ⟨e4, e5⟩ := List.getElem?_zip_eq_some.mp e3
      obtain ⟨y1, g1, z1, r1, o1, s1⟩ := it1 i _ e4
      obtain ⟨y2, g2, z2, r2, o2, s2⟩ := it2 i _ e5
      have b1 : H2 a1 = some (.lst vs1) := kp.1 a1 (List.mem_append_left _ m1) _ h1
      have b2 : H2 a2 = some (.lst vs2) := kp.1 a2 (List.mem_append_right _ m2) _ h2
      refine ⟨⟨vs1, vs2, y1, y2, SqL.of b1, SqL.of b2, z1, z2⟩, fun xv H3 yl => ?_⟩
      obtain ⟨T, u1, u2, rfl, hT, rfl, q1, q2⟩ := yl
      have := q1 vs1 (SqL.of b1)
      rw [z1] at this; cases this
      have := q2 vs2 (SqL.of b2)
      rw [z2] at this; cases this
      have ex : Ext H2 (upd H2 T (.tup [y1, y2])) := Ext.put hT
      refine ⟨ex, g1 ++ g2, ?_, fps_pair o1 o2, fun c hc => ?_⟩
      · simp only [Rep, RepL]
        refine ⟨T, [y1, y2], rfl, upd_same, y1, [y2], g1, g2, rfl, ?_, ⟨y2, [], g2, [], rfl, ?_, ⟨rfl, rfl⟩, by simp⟩, rfl⟩
        · exact Rep.ext (kp.rep r1 fun c hc => List.mem_append_left _ (s1 c hc)) ex
        · exact Rep.ext (kp.rep r2 fun c hc => List.mem_append_right _ (s2 c hc)) ex
      · rcases List.mem_append.mp hc with hc | hc
        · exact List.mem_append_left _ (s1 c hc)
        · exact List.mem_append_right _ (s2 c hc)
    · refine ⟨vs1, vs2, SqL.of (kp.1 a1 (List.mem_append_left _ m1) _ h1), SqL.of (kp.1 a2 (List.mem_append_right _ m2) _ h2), ?_⟩
      rw [List.length_map, List.length_zip, n1, n2]
      omega
  · cases e
theorem ei_enum (hg : Gl X "enumerate") (hm : X.mg "enumerate" = none) (ha : EX X LL Γ a sa ma) (hs : starEach [a] X.env = [(false, eval a X.env)] := by rfl) :
    EI X LL Γ (.Tuple elts kk tpos) (.Call (.Name "enumerate" p) [a] [] pos) (iEnumL sa) ma.labs ma.child := by
  obtain ⟨t, pt, k⟩ := ha
  refine ⟨_, pi_sized (pi_enum hg hm (pa_cons pt pa_nil hs) hs), fun P g ρ σ H ds R s e q => ?_⟩
  obtain ⟨d0, e1, e⟩ := bind_some e
  refine k P g ρ σ H d0 _ s e1 fun v H' x va => ?_
  cases d0 with
  | lst l =>
    cases e
    obtain ⟨a1, vs1, f1, rfl, h1, n1, lb1, m1, it1⟩ := lst_nodes va
    refine ⟨a1, vs1, rfl, SqL.of h1, fun sz => q _ H' x ?_ ⟨f1, lb1, fun H2 kp => ⟨fun i d hi => ?_, ?_⟩⟩⟩
    · rw [List.length_mapIdx, ← n1]
      exact sz.1 a1 vs1 (SqL.of h1)
    · rw [List.getElem?_mapIdx] at hi
      obtain ⟨d', e4, rfl⟩ := Option.map_eq_some_iff.mp hi
      obtain ⟨y1, g1, z1, r1, o1, s1⟩ := it1 i _ e4
      have b1 : H2 a1 = some (.lst vs1) := kp.1 a1 m1 _ h1
      refine ⟨⟨vs1, y1, SqL.of b1, z1⟩, fun xv H3 yl => ?_⟩
      obtain ⟨T, u1, rfl, hT, rfl, q1⟩ := yl
      have := q1 vs1 (SqL.of b1)
      rw [z1] at this; cases this
      have ex : Ext H2 (upd H2 T (.tup [.int (i : Nat), y1])) := Ext.put hT
      refine ⟨ex, g1, ?_, o1, s1⟩
      simp only [Rep, RepL]
      exact ⟨T, _, rfl, upd_same, .int i, [y1], [], g1, rfl, ⟨rfl, rfl⟩, ⟨y1, [], g1, [], rfl, Rep.ext (kp.rep r1 s1) ex, ⟨rfl, rfl⟩, by simp⟩, rfl⟩
    · refine ⟨vs1, SqL.of (kp.1 a1 m1 _ h1), ?_⟩
      rw [List.length_mapIdx, n1]
      exact Nat.le_refl _
  | _ => cases e
end

/-! ### a, b = a list -/
def gL (ts : List D → List D → Option (List D)) : Tv := fun d ρ => match d with
  | .lst l => ts l ρ
  | _ => none
def Kd.lstChild : Kd → Kd
  | .lab rt L nd => .lab none (match rt with | some n => n :: L | none => L) nd
  | k => k
section
variable {X : Cx} {Γ Γ' : List Kd} {pos : Pos}
end

/-! ### one object is changed -/
def Kd.has (n : Nat) : Kd → Bool
  | .lab rt L _ => L.contains n || (rt == some n)
  | .ob m Ls => m == n || Ls.any fun L => L.contains n
  | .dk _ m l L => m == n || l == n || L.contains n
  | .pr p k1 k2 => p == n || Kd.has n k1 || Kd.has n k2
  | .ow _ m L => m == n || L.contains n
  | _ => false
def killK (n : Nat) (Γ : List Kd) : List Kd := Γ.map fun k => if k.has n then .dead else k
section
variable {mg : Mg} {P : Fm} {LL : List Nat} {Γ : List Kd} {g : Addr → Nat} {ρ : List D} {σ : L2.St} {H : Hp}
theorem rep_upd {H : Hp} {a : Addr} {o o' : HO} {d : D} {v : V} {f : List Addr} (h : Rep mg H d v f) (hn : a ∉ f) (ha : H a = some o) (mu : Mut (some o)) : Rep mg (upd H a o') d v f := by
  refine h.keep (fun b hb => ?_) ⟨fun b xs r => ?_, fun b o2 vs r => ?_, fun b o2 vs r => ?_⟩
  · have : b ≠ a := fun z => hn (by rw [← z]; exact hb)
    exact ⟨fun u _ r => by unfold Rd at r ⊢; rw [upd_ne this]; exact r, fun vs r => by rw [upd_ne this]; exact r, fun _ _ _ r => by rw [upd_ne this]; exact r⟩
  · have : b ≠ a := fun z => by
      rw [z, ha] at r
      cases r
      exact mu
    rw [upd_ne this]
    exact r
  · have : b ≠ a := fun z => by
      rw [z, ha] at r
      cases r
      exact mu
    rw [upd_ne this]
    exact r
  · have : b ≠ a := fun z => by
      rw [z, ha] at r
      cases r
      exact mu
    rw [upd_ne this]
    exact r
theorem repL_upd {H : Hp} {a : Addr} {o o' : HO} {d : List D} {v : List V} {f : List Addr} (h : RepL mg H d v f) (hn : a ∉ f) (ha : H a = some o) (mu : Mut (some o)) : RepL mg (upd H a o') d v f := by
  refine h.keep (fun b hb => ?_) ⟨fun b xs r => ?_, fun b o2 vs r => ?_, fun b o2 vs r => ?_⟩
  · have : b ≠ a := fun z => hn (by rw [← z]; exact hb)
    exact ⟨fun u _ r => by unfold Rd at r ⊢; rw [upd_ne this]; exact r, fun vs r => by rw [upd_ne this]; exact r, fun _ _ _ r => by rw [upd_ne this]; exact r⟩
  · have : b ≠ a := fun z => by
      rw [z, ha] at r
      cases r
      exact mu
    rw [upd_ne this]
    exact r
  · have : b ≠ a := fun z => by
      rw [z, ha] at r
      cases r
      exact mu
    rw [upd_ne this]
    exact r
  · have : b ≠ a := fun z => by
      rw [z, ha] at r
      cases r
      exact mu
    rw [upd_ne this]
    exact r
theorem CellOk.upd {k : Kd} {d : D} {ov : Option V} {a : Addr} {o o' : HO} {n : Nat} (c : CellOk mg P g H k d ov) (ha : H a = some o) (mu : Mut (some o)) (hg : g a = n) : CellOk mg P g (upd H a o') (if k.has n then .dead else k) d ov := by
  split
  · trivial
  · rename_i hh
    induction k generalizing d ov with
    | dead => trivial
    | exc _ _ => exact c
    | pr p k1 k2 i1 i2 =>
      obtain ⟨b, d1, d2, v1, v2, e0, e1, r, q, c1, c2⟩ := c
      simp only [Kd.has, Bool.or_eq_true, beq_iff_eq, not_or] at hh
      have hba : b ≠ a := fun e => hh.1.1 (by have := List.mem_singleton.mp q.1; rw [e, hg] at this; exact this.symm)
      exact ⟨b, d1, d2, v1, v2, e0, e1, by rw [upd_ne hba]; exact r, q, i1 c1 hh.1.2, i2 c2 hh.2⟩
    | ow fl m L =>
      obtain ⟨b, f, e0, r, nd, q1, q2, q3⟩ := c
      simp only [Kd.has, Bool.or_eq_true, beq_iff_eq, not_or] at hh
      refine ⟨b, f, e0, rep_upd r (fun hm => ?_) ha mu, nd, q1, q2, q3⟩
      rcases List.mem_cons.mp hm with rfl | hm
      · exact hh.1 (by have := List.mem_singleton.mp q1.1; rw [hg] at this; exact this.symm)
      · have := (q2 a hm).1
        rw [hg] at this
        exact hh.2 (by simpa using this)
    | ob m Ls =>
      obtain ⟨b, C, dx, c, ns, vs, ds, fps, rfl, rfl, hc, hl, r, ob, rs, fs, nd⟩ := c
      have hmn : m ≠ n := fun e => hh (by simp [Kd.has, e])
      have hLn : ∀ L ∈ Ls, n ∉ L := fun L hL hn => hh (by simp only [Kd.has, Bool.or_eq_true, List.any_eq_true]; exact .inr ⟨L, hL, by simpa using hn⟩)
      have hba : b ≠ a := fun e => hmn (by have := List.mem_singleton.mp ob.1.1; rw [e, hg] at this; exact this.symm)
      refine ⟨b, C, dx, c, ns, vs, ds, fps, rfl, rfl, hc, hl, by rw [upd_ne hba]; exact r, ob, rs.monoF fun d v f hf h => rep_upd h (fun hm => ?_) ha mu, fs, nd⟩
      obtain ⟨L, hL, o⟩ := fs.mem hf hm
      exact hLn L hL (hg ▸ o.1)
    | dk fl m l L =>
      obtain ⟨x, b, F, e0, ⟨C, dx, c, f, ks, vs, ds, rfl, hc, r, rd, rl⟩, o1, o2, o3, o4⟩ := c
      have hh' : m ≠ n ∧ l ≠ n ∧ n ∉ L := by simpa [Kd.has, not_or, and_assoc] using hh
      have h1 : x ≠ a := fun e => hh'.1 (by have := List.mem_singleton.mp o1.1; rw [e, hg] at this; exact this.symm)
      have h2 : b ≠ a := fun e => hh'.2.1 (by have := List.mem_singleton.mp o2.1; rw [e, hg] at this; exact this.symm)
      have h3 : a ∉ F := fun e => hh'.2.2 (hg ▸ (o3 a e).1)
      exact ⟨x, b, F, e0, ⟨C, dx, c, f, ks, vs, ds, rfl, hc, by rw [upd_ne h1]; exact r, rd.keep fun u _ hu => by unfold Rd at hu ⊢; rw [upd_ne h2]; exact hu, repL_upd rl h3 ha mu⟩, o1, o2, o3, o4⟩
    | flat => obtain ⟨v, rfl, r⟩ := c; exact ⟨v, rfl, rep_upd r (by simp) ha mu⟩
    | lab rt L nd =>
      obtain ⟨v, fp, rfl, r, q, z⟩ := c
      refine ⟨v, fp, rfl, rep_upd r (fun hm => ?_) ha mu, q, z⟩
      apply hh
      rcases q a hm with ⟨_, m, rfl, y⟩ | ⟨_, y⟩
      · have := List.mem_singleton.mp y.1
        simp [Kd.has, ← this, hg]
      · have := y.1
        rw [hg] at this
        simp [Kd.has, this]
theorem Cells.upd {a : Addr} {o o' : HO} {n : Nat} (ha : H a = some o) (mu : Mut (some o)) (hg : g a = n) : ∀ {Γ : List Kd} {ρ : List D} {σ : L2.St}, Cells mg P g H Γ ρ σ → Cells mg P g (upd H a o') (killK n Γ) ρ σ
  | [], [], [], _ => trivial
  | _ :: _, _ :: _, _ :: _, h => ⟨h.1.upd ha mu hg, Cells.upd ha mu hg h.2⟩
  | [], _ :: _, _, h => h.elim
  | [], [], _ :: _, h => h.elim
  | _ :: _, [], _, h => h.elim
  | _ :: _, _ :: _, [], h => h.elim
theorem Cells.put {k : Kd} {d : D} {v : V} : ∀ {Γ : List Kd} {ρ : List D} {σ : L2.St} (i : Nat), Cells mg P g H Γ ρ σ → CellOk mg P g H k d (some v) → σ[i]? = some (some v) → Cells mg P g H (Γ.set i k) (ρ.set i d) σ
  | [], [], [], _, _, _, _ => trivial
  | _ :: _, _ :: _, _ :: _, 0, h, c, e => ⟨by cases (by simpa using e : _ = some v); exact c, h.2⟩
  | _ :: _, _ :: _, _ :: _, i + 1, h, c, e => ⟨h.1, Cells.put i h.2 c (by simpa using e)⟩
  | [], _ :: _, _, _, h, _, _ => h.elim
  | [], [], _ :: _, _, h, _, _ => h.elim
  | _ :: _, [], _, _, h, _, _ => h.elim
  | _ :: _, _ :: _, [], _, h, _, _ => h.elim
/-- the object at a (label n) becomes o', the slot i tells it anew -/
theorem Sta.put {a : Addr} {o o' : HO} {n i : Nat} {k : Kd} {d : D} {v : V} (s : Sta mg P LL Γ g ρ σ H) (ha : H a = some o) (mu : Mut (some o)) (mu' : Mut (some o')) (hg : g a = n) (hn : n ≠ 0) (hL : n ∉ LL) (hv : σ[i]? = some (some v)) (c : CellOk mg P g (upd H a o') k d (some v)) :
    Sta mg P LL ((killK n Γ).set i k) g (ρ.set i d) σ (upd H a o') ∧ Step LL g H g (upd H a o') := by
  have nl : ∀ b, VV.lk LL (g b) → b ≠ a := fun b h e => by
    subst e
    rw [hg] at h
    exact h.elim hn hL
  refine ⟨⟨⟨fun b hb => ?_, fun b hb => ?_, fun b hb => ?_⟩, Cells.put i (s.cells.upd ha mu hg) c hv⟩, ⟨fun b hb u e => ?_, fun b _ _ => rfl, fun b hb => ?_⟩⟩
  · by_cases e : b = a
    · subst e; exact ⟨o', upd_same, .inl mu'⟩
    · rw [upd_ne e]; exact s.loc.at_ b hb
  · by_cases e : b = a
    · subst e; rw [upd_same]; simp
    · rw [upd_ne e]; exact s.loc.out b hb
  · refine ⟨?_, (s.loc.fz b hb).2⟩
    rw [upd_ne (nl b (s.loc.fz b hb).2)]
    exact (s.loc.fz b hb).1
  · rw [upd_ne (nl b hb)]; exact e
  · by_cases e : b = a
    · subst e; rw [upd_same]; simp
    · rw [upd_ne e]; exact hb
end

/-! ### append -/
def dPush : D → D → Option D
  | .lst l, d => if l.length < 1000000 then some (.lst (l ++ [d])) else none
  | _, _ => none
/-- the list in the slot i, changed by a function of it and a value -/
def sMut (f : D → D → Option D) (i : Nat) (e : Ev) : Sv := fun ρ => do
  let y ← e ρ
  let x ← ρ[i]?
  let z ← f x y
  some (.nx (ρ.set i z))
/-- the kind of a list that has got one more -/
def Md.pushL (c : Nat) : Md → List Nat
  | .flat => []
  | .al fr r L' _ => (match r with | .new => [c] | .old n => [n] | .unk => []) ++ ((if fr then [c] else []) ++ L')
def Md.isNd : Md → Bool
  | .flat => true
  | .al _ _ _ nd => nd
def Kd.push (c : Nat) (k : Kd) (m : Md) : Kd := match k with
  | .lab rt L nd => .lab rt (L ++ m.pushL c) (nd && m.isNd && disj L m.labs)
  | k => k
/-- the nodes of a value, its new ones labelled c -/
theorem Val.pushed {mg : Mg} {P : Fm} {LL : List Nat} {g : Addr → Nat} {H H' : Hp} {m : Md} {d : D} {y : V} {c : Nat} (h : Val mg P g H H' m d y) (l : Loc P LL g H) (hc : c ≠ 0) :
    ∃ f, Rep mg H' d y f ∧ (∀ b ∈ f, Old P (relab g H H' .non c c) (m.pushL c) b) ∧ (m.isNd = true → f.Nodup) ∧ ∀ b ∈ f, New H H' b ∨ Old P g m.labs b := by
  obtain ⟨f, r, o, lb, _⟩ := h.labs
  refine ⟨f, r, fun b hb => ?_, fun hn => ?_, lb⟩
  · cases m with
    | flat =>
      obtain rfl : f = [] := o
      cases hb
    | al fr rt L nd =>
      obtain ⟨f0, r0, o0, _⟩ := h
      have nw : New H H' b → (c ∈ (Md.al fr rt L nd).pushL c) → Old P (relab g H H' .non c c) ((Md.al fr rt L nd).pushL c) b := fun n hm => by
        unfold Old
        rw [relab_new n]
        simp only [if_neg (show V.non ≠ V.ref b from fun z => nomatch z)]
        exact ⟨hm, fun z => absurd z hc⟩
      have old : ∀ {K : List Nat}, Old P g K b → (∀ k ∈ K, k ∈ (Md.al fr rt L nd).pushL c) → Old P (relab g H H' .non c c) ((Md.al fr rt L nd).pushL c) b := fun {K} y hK => by
        have y' := Old.relab (H' := H') (v := .non) (n := c) (m := c) y l
        exact ⟨hK _ y'.1, y'.2⟩
      cases rt with
      | new =>
        rcases o.1 b hb with y | y
        · exact nw y.2 (List.mem_append_left _ List.mem_cons_self)
        · exact old y fun k hk => List.mem_append_right _ (List.mem_append_right _ hk)
      | old n =>
        rcases o.1 b hb with ⟨hf, y⟩ | y
        · subst hf
          exact nw y (List.mem_append_right _ (List.mem_append_left _ List.mem_cons_self))
        · refine old y fun k hk => ?_
          rcases List.mem_cons.mp hk with e | e
          · rw [e]; exact List.mem_append_left _ List.mem_cons_self
          · exact List.mem_append_right _ (List.mem_append_right _ e)
      | unk =>
        rcases o.1 b hb with ⟨hf, y⟩ | y
        · subst hf
          exact nw y (List.mem_append_right _ (List.mem_append_left _ List.mem_cons_self))
        · exact old y fun k hk => List.mem_append_right _ (List.mem_append_right _ hk)
  · cases m with
    | flat =>
      obtain rfl : f = [] := o
      exact List.nodup_nil
    | al fr rt L nd => cases rt <;> exact o.2 hn
section
variable {X : Cx} {W : L2.WX} {sc : Sc} {Γ : List Kd} {pos : Pos}
theorem sx_append {i : Nat} {x : Str} {px ap cp : Pos} {e : Expr} {se : Ev} {m : Md} {n : Nat} {L : List Nat} {nd : Bool} (c : Nat) (hk : Γ[i]? = some (.lab (some n) L nd)) (hN : X.N[i]? = some x) (hv : Vis X.env.scope x) (he : EX X sc.LL Γ e se m)
    (hn : n ≠ 0 := by decide) (hL : n ∉ sc.LL := by decide) (hm : n ∉ m.labs := by decide) (hc : c ≠ 0 := by decide) (hdb : (x == ("__debug__" : Str)) = false := by decide) (hcd : (x == ("__classdict__" : Str)) = false := by decide)
    (hbase : attributeBase (.Name x px) "append" X.env (eval (.Name x px) X.env) = eval (.Name x px) X.env := by rfl)
    (hfew : ((backTo cp (starEach [e] X.env)).all (fun x => !x.1) && (backToKw cp (keywordEach [] X.env)).all (fun x => x.1.isSome)
      && decide ([e].length + ([] : List Keyword).length + (if ([] : List Keyword).isEmpty then 0 else 1) < 30)) = true := by rfl)
    (hline : (ap.endLine == cp.line) = true := by rfl) (hs : starEach [e] X.env = (false, eval e X.env) :: starEach [] X.env := by rfl) (hplain : (backTo cp (starEach [] X.env)).any (·.1) = false := by rfl)
    (hsw : swapsWith (.Call (.Attribute (.Name x px) "append" ap) [e] [] cp) none pos.line X.env = pure false := by rfl) :
    SX X W sc Γ (.Expr (.Call (.Attribute (.Name x px) "append" ap) [e] [] cp) pos) (sMut dPush i se) ((killK n Γ).set i (Kd.push c (.lab (some n) L nd) m)) := by
  obtain ⟨t, pt, kk⟩ := he
  refine ⟨_, ps_expr (pe_bm PySem.F.plainAttrs_list PySem.F.slot_list_append PySem.F.type_list_append mt_append (pe_var hN hv hdb hcd) (pa_cons pt pa_nil hs) hbase hfew hline hs hplain) hsw, fun P g ρ σ H o De s e w => ?_⟩
  obtain ⟨d, e1, e⟩ := bind_some e
  obtain ⟨l, e2, e⟩ := bind_some e
  obtain ⟨z, e3, e⟩ := bind_some e
  cases e
  obtain ⟨l', ov, h1, h2, h3⟩ := s.cells.get hk
  rw [e2] at h1; cases h1
  cases l with
  | lst ds =>
    unfold dPush at e3
    dsimp only at e3
    split at e3
    · rename_i hlen
      cases e3
      obtain ⟨v, fp, rfl, r, q, z⟩ := h3
      simp only [Rep] at r
      obtain ⟨a, vs, f, rfl, ha, rl, rfl⟩ := r
      have hga : g a = n := by
        rcases q a List.mem_cons_self with ⟨_, k, ek, y⟩ | ⟨y, _⟩
        · cases ek; exact List.mem_singleton.mp y.1
        · rcases y with y | y
          · exact absurd rfl y
          · cases y
      have haf : a ∉ f := z.2 rfl a f rfl rfl
      refine ⟨.ref a, h2, .inl ⟨rfl, _, .inl (.inl ha)⟩, ?_⟩
      refine kk P g ρ σ H d _ s e1 fun y H2 x2 wv => ?_
      obtain ⟨fy, ry, oy, ndy, lby⟩ := wv.pushed (c := c) s.loc hc
      have ha2 : H2 a = some (.lst vs) := x2 a _ ha
      have hay : a ∉ fy := fun hm' => by
        rcases lby a hm' with y | y
        · have := y.1; rw [ha] at this; cases this
        · have := y.1; rw [hga] at this; exact hm this
      have st2 : Sta X.vm P sc.LL Γ (relab g H H2 .non c c) ρ σ H2 := s.relab x2
      have hg2 : relab g H H2 .non c c a = n := by rw [relab_old (by rw [ha]; simp)]; exact hga
      refine ⟨a, vs, y, rfl, rfl, ha2, ?_, ?_⟩
      · rw [rl.length, sizeLine_eq]; omega
      have oldf : ∀ b ∈ f, Old P g L b := fun b hb => by
        rcases q b (List.mem_cons_of_mem _ hb) with ⟨e, _⟩ | ⟨_, y⟩
        · cases e; exact absurd hb haf
        · exact y
      have cell : CellOk X.vm P (relab g H H2 .non c c) (upd H2 a (.lst (vs ++ [y]))) (Kd.push c (.lab (some n) L nd) m) (.lst (ds ++ [d])) (some (.ref a)) := by
        refine ⟨.ref a, a :: (f ++ fy), rfl, ?_, fun b hb => ?_, fun hn' => ?_, fun _ b g' e1 e2 => ?_⟩
        · simp only [Rep]
          exact ⟨a, vs ++ [y], f ++ fy, rfl, upd_same, (repL_upd (rl.ext x2) haf ha2 trivial).append (.one (rep_upd ry hay ha2 trivial)), rfl⟩
        · rcases List.mem_cons.mp hb with rfl | hb
          · exact .inl ⟨rfl, n, rfl, by rw [hg2]; exact List.mem_singleton.mpr rfl, fun z => by rw [hg2] at z; exact absurd z hn⟩
          · rcases List.mem_append.mp hb with hb | hb
            · have y' := Old.relab (H' := H2) (v := .non) (n := c) (m := c) (oldf b hb) s.loc
              exact .inr ⟨.inl fun e => by cases e; exact haf hb, List.mem_append_left _ y'.1, y'.2⟩
            · have y' := oy b hb
              exact .inr ⟨.inl fun e => by cases e; exact hay hb, List.mem_append_right _ y'.1, y'.2⟩
        · simp only [Bool.and_eq_true] at hn'
          obtain ⟨⟨n1, n2⟩, dj⟩ := hn'
          refine List.nodup_cons.mpr ⟨fun hm => (List.mem_append.mp hm).elim haf hay, List.nodup_append.mpr ⟨(List.nodup_cons.mp (z.1 n1)).2, ndy n2, fun b hb b' hb' e => ?_⟩⟩
          subst e
          rcases lby b hb' with y | y
          · exact (oldf b hb).there s.loc y.1
          · exact disj_ok dj (oldf b hb).1 y.1
        · cases e2
          exact fun hm => (List.mem_append.mp hm).elim haf hay
      obtain ⟨s3, st3⟩ := st2.put (o' := .lst (vs ++ [y])) ha2 trivial trivial hg2 hn hL h2 cell
      exact w _ σ _ ((Step.relab x2).trans st3) s3
    · cases e3
  | _ => cases e3
end
end VV

/-! ## VBool -/
namespace VV
open PySem PySem.Spec PyProof.Rows L2
def vAnd (a b : Ev) : Ev := fun ρ => match a ρ with
  | some (.bl true) => b ρ
  | some (.bl false) => some (.bl false)
  | _ => none
def vOr (a b : Ev) : Ev := fun ρ => match a ρ with
  | some (.bl false) => b ρ
  | some (.bl true) => some (.bl true)
  | _ => none
def vNot (a : Ev) : Ev := fun ρ => match a ρ with
  | some (.bl b) => some (.bl (!b))
  | _ => none
section
variable {X : Cx} {W : L2.WX} {sc : Sc} {LL : List Nat} {Γ Γ1 Γ' : List Kd} {pos : Pos} {a b c : Expr} {sa sb s2 : Ev} {ma mb mc : Md} {rest : List Expr}
theorem ex_one {op} (ha : EX X LL Γ a sa ma) : EX X LL Γ (.BoolOp op [a] pos) sa ma := let ⟨t, p, k⟩ := ha; ⟨t, pe_one p, k⟩
theorem ex_and (ha : EX X LL Γ a sa .flat) (hb : EX X LL Γ (.BoolOp .And (b :: rest) pos) sb .flat) : EX X LL Γ (.BoolOp .And (a :: b :: rest) pos) (vAnd sa sb) .flat := by
  obtain ⟨t, p, k⟩ := ha
  obtain ⟨t', p', k'⟩ := hb
  refine ⟨_, pe_and p p', fun P g ρ σ H d Q s e q => ?_⟩
  unfold vAnd at e
  split at e
  · rename_i h
    refine k P g ρ σ H _ _ s h fun v H1 x1 w => ⟨true, rBl (show Rep X.vm H1 (.bl true) v [] from w), ?_⟩
    exact iteT (k' P g ρ σ H1 d Q (s.ext x1) e fun v2 H2 x2 w2 => q v2 H2 (x1.trans x2) w2)
  · rename_i h
    cases e
    refine k P g ρ σ H _ _ s h fun v H1 x1 w => ⟨false, rBl (show Rep X.vm H1 (.bl false) v [] from w), ?_⟩
    exact iteF (q _ H1 x1 (val_flat rep_bl))
  · cases e
end
end VV

/-! ## VLaw -/
namespace VV
open PySem PySem.Spec PyProof.Rows L2

/-- a def that may be called by its name -/
def Cal (P : Program) (w : World) (K : PySem.W.Frag) (mg : Str → Option Value) (base : Heap) (x : Str) (k : Nat) (ps : List Str) (sem : List D → Option Res) (R : Rm) : Prop :=
  ∃ f fd, FnOk P w K mg base CX0 k f fd ps (sp0 ⟨mg, K⟩ sem ps.length R) ∧ mg x = some (.ref f) ∧ PySem.W.keepIn K (.ref f) = true ∧ Binds K fd ps []
section
variable {X : Cx} {LL : List Nat} {Γ : List Kd} {pos p : Pos} {k : Nat} {ps : List Str} {sem : List D → Option Res} {R : Rm} {x : Str}
theorem ex_calls_flat {e : Expr} {es : List Expr} {a : List D → Option (List D)} {m : Md} (c : Cal X.prog X.w X.K X.mg X.base x k ps sem .flat) (hr : Room k X.A) (hg : Gl X x) (ha : EA X LL Γ (e :: es) a m) (hn : (e :: es).length = ps.length := by rfl)
    (hdb : (x == ("__debug__" : Str)) = false := by decide) (he : starEach (e :: es) X.env = (false, eval e X.env) :: starEach es X.env := by rfl) (hpl : (backTo pos (starEach es X.env)).any (·.1) = false := by rfl) :
    EX X LL Γ (.Call (.Name x p) (e :: es) [] pos) (eCall sem a) .flat := by
  obtain ⟨f, fd, F, hm, hk, hb⟩ := c
  exact ex_call F hr hg hm hk hb ha hn hdb he hpl
theorem ex_calls_fresh {e : Expr} {es : List Expr} {a : List D → Option (List D)} {m : Md} (c : Cal X.prog X.w X.K X.mg X.base x k ps sem .fresh) (hr : Room k X.A) (hg : Gl X x) (ha : EA X LL Γ (e :: es) a m) (hn : (e :: es).length = ps.length := by rfl)
    (hdb : (x == ("__debug__" : Str)) = false := by decide) (he : starEach (e :: es) X.env = (false, eval e X.env) :: starEach es X.env := by rfl) (hpl : (backTo pos (starEach es X.env)).any (·.1) = false := by rfl) :
    EX X LL Γ (.Call (.Name x p) (e :: es) [] pos) (eCall sem a) (.al true .new [] true) := by
  obtain ⟨f, fd, F, hm, hk, hb⟩ := c
  exact ex_call F hr hg hm hk hb ha hn hdb he hpl
theorem ex_calls_news {e : Expr} {es : List Expr} {a : List D → Option (List D)} {m : Md} (c : Cal X.prog X.w X.K X.mg X.base x k ps sem .news) (hr : Room k X.A) (hg : Gl X x) (ha : EA X LL Γ (e :: es) a m) (hn : (e :: es).length = ps.length := by rfl)
    (hdb : (x == ("__debug__" : Str)) = false := by decide) (he : starEach (e :: es) X.env = (false, eval e X.env) :: starEach es X.env := by rfl) (hpl : (backTo pos (starEach es X.env)).any (·.1) = false := by rfl) :
    EX X LL Γ (.Call (.Name x p) (e :: es) [] pos) (eCall sem a) (.al true .unk [] false) := by
  obtain ⟨f, fd, F, hm, hk, hb⟩ := c
  exact ex_call F hr hg hm hk hb ha hn hdb he hpl
end
theorem scr_rep {mg : Mg} {H : Hp} {a : Addr} {ns : List Int} (h : SqL mg.K H a (ns.map V.int)) (o : Only H) : RepL mg H [.scr (ns.map D.int)] [.ref a] [] := by
  have key : ∀ ns : List Int, RepL mg H (ns.map D.int) (ns.map V.int) [] := fun ns => by
    induction ns with
    | nil => simp [RepL]
    | cons n r ih => simp only [List.map_cons, RepL]; exact ⟨_, _, [], [], rfl, rep_int, ih, rfl⟩
  simp only [RepL, Rep]
  refine ⟨_, _, [], [], rfl, ⟨a, _, rfl, ?_, key ns, rfl⟩, ⟨rfl, rfl⟩, rfl⟩
  rcases h with (h | h) | h
  · rcases o a with z | ⟨_, _, z⟩ <;> rw [h] at z <;> cases z
  · exact .inl h
  · exact .inr h
theorem rf_bl {mg : Mg} {H H' : Hp} {fp : List Addr} {R : Rm} {b : Bool} {v : V} (r : RF mg H H' fp R (.bl b) v) : v = .bl b := by
  cases R with
  | flat => exact rBl (show Rep mg H' (.bl b) v [] from r)
  | fresh => obtain ⟨_, r, _⟩ := r; exact rBl r
  | out => obtain ⟨_, r, _⟩ := r; exact rBl r
  | news => obtain ⟨_, r, _⟩ := r; exact rBl r
  | outN => obtain ⟨_, r, _⟩ := r; exact rBl r
/-- the end: a law whose tree is True at every script -/
theorem walk_V {l : PySem.W.OpenLaw} {n k : Nat} {q : Program} {loose : List Str} {XP : (Str → Option Value) → Heap → Prop} {YP : World → Heap → Prop} {d : DefRec} {x : Str} {sem : List D → Option Res} {R : Rm}
    (hn : l.most = some n) (hn2 : n ≤ sizeLine) (hdf : d.params.defaults = []) (hr : Room k callerA)
    (hs : ∀ ns : List Int, ns.length ≤ n → (∀ z ∈ ns, Builtin.Int.intBits z ≤ 1048576) → sem [.scr (ns.map D.int)] = some (.ret (.bl true)))
    (F : ∀ (w : World) (mg : Str → Option Value) (fa : Addr) (h : Heap), YP w h → h.Ns mainGlobals mg → mg d.name = some (.ref fa) →
      ∃ (K : PySem.W.Frag) (fd : FuncData), K.In h ∧ (∀ (s : Shared) (u : Value), BindsTo s fd ⟨[u], []⟩ [(x, u)]) ∧
        ∀ base : Heap, K.In base → base.Ns mainGlobals mg → FnOk l.prog w K mg base CX0 k fa fd [x] (sp0 ⟨mg, K⟩ sem 1 R)) :
    PySem.W.WalkO q loose XP YP l.row.toRowW d [] (fun f vs => PySem.call f vs) := by
  refine Att.attach_callB hn hdf fun w s₀ s₁ mg mb fa o pm cd doc a vs ns G Y ho hd hcd hmg hobj hints hlen hbits hg => ?_
  obtain ⟨K, fd, KX, hb, hF⟩ := F w mg fa _ Y G.T.g hmg
  refine law_call KX G.T.g G.T.b G.T.builtins G.T.nolimit hg hobj hints (Nat.le_trans hlen hn2) hr hF hb (fun H hO hS => ?_) fun H e s' h => h
  exact ⟨rfl, _, [], _, scr_rep (mg := ⟨mg, K⟩) hS hO, hs ns hlen hbits, fun v H' _ r => rf_bl r⟩
end VV

/-! ## VDict -/
namespace VV
open PySem PySem.Spec PyProof.Rows L2

/-! ### keys -/
def keyD : L2.Key → D
  | .inl i => .int i
  | .inr s => .str s
def D.ky1 : D → Option L2.Key
  | .int i => some (.inl i)
  | .str s => some (.inr s)
  | _ => none
def D.kyL : List D → Option (List L2.Key)
  | [] => some []
  | d :: r => match d.ky1, D.kyL r with
    | some k, some ks => some (k :: ks)
    | _, _ => none
def D.ky (tk : Bool) (d : D) : Option Ky := match tk with
  | false => d.ky1.map Ky.k
  | true => match d with
    | .tup l => (D.kyL l).map Ky.t
    | _ => none
def Ky.d : Ky → D
  | .k x => keyD x
  | .t l => .tup (l.map keyD)
section
variable {mg : Mg} {H : Hp}
end

/-! ### tables of keys and values -/
def lkD {α : Type} (ks : List Ky) (ds : List α) (k : Ky) : Option α := ((ks.zip ds).find? fun p => decide (p.1 = k)).map (·.2)
def putKs (ks : List Ky) (k : Ky) : List Ky := if k ∈ ks then ks else ks ++ [k]
def putDs {α : Type} (ks : List Ky) (ds : List α) (k : Ky) (d : α) : List α := if k ∈ ks then (ks.zip ds).map (fun p => if p.1 = k then d else p.2) else ds ++ [d]
section
variable {mg : Mg} {H : Hp} {κ : Type} [DecidableEq κ] {em : κ → Ky}
end

/-! ### reading -/
def dGet : List D → Option D
  | [.dic tk ks ds, x] => (x.ky tk).bind (lkD ks ds)
  | _ => none
section
variable {mg : Mg} {H : Hp} {a : Addr} {tk : Bool} {ks : List Ky} {ds : List D} {vs : List V} {f : List Addr} {x d : D} {y : V} {fy : List Addr} {k : Ky}
end
section
variable {X : Cx} {LL : List Nat} {Γ : List Kd} {pos : Pos} {a b c : Expr} {sa sb s2 : Ev} {ma mb mc : Md}
end
end VV

/-! ## VDict2 -/
namespace VV
open PySem PySem.Spec PyProof.Rows L2

/-! ### one of two -/

/-! ### get, in -/
def dGet2 : List D → Option D
  | [.dic tk ks ds, x, z] => (x.ky tk).map fun k => (lkD ks ds k).getD z
  | _ => none
def dIn : List D → Option D
  | [x, .dic tk ks ds] => (x.ky tk).map fun k => .bl (lkD ks ds k).isSome
  | _ => none
section
variable {X : Cx} {LL : List Nat} {Γ : List Kd} {pos apos cpos : Pos} {a b c : Expr} {sa sb s2 : Ev} {ma mb mc : Md}
end
end VV

/-! ## VDict3 -/
namespace VV
open PySem PySem.Spec PyProof.Rows L2

/-! ### what stands after a store, a removal -/
section
variable {mg : Mg} {H : Hp}
end

/-! ### d[k] = v -/
/-- the thing in the slot i gets v at x -/
def sPut (f : D → D → D → Option D) (i : Nat) (ex ev : Ev) : Sv := fun ρ => do
  let v ← ev ρ
  let x ← ex ρ
  let d ← ρ[i]?
  let z ← f d x v
  some (.nx (ρ.set i z))
theorem root_lab {P : Fm} {g : Addr → Nat} {n : Nat} {L : List Nat} {a : Addr} {f : List Addr} (q : ∀ b ∈ a :: f, (V.ref a = .ref b ∧ ∃ k, some n = some k ∧ Old P g [k] b) ∨ ((V.ref a ≠ .ref b ∨ some n = none) ∧ Old P g L b)) : g a = n := by
  rcases q a List.mem_cons_self with ⟨_, k, ek, y⟩ | ⟨y, _⟩
  · cases ek; exact List.mem_singleton.mp y.1
  · rcases y with y | y
    · exact absurd rfl y
    · cases y
section
variable {X : Cx} {W : L2.WX} {sc : Sc} {Γ : List Kd} {pos : Pos}
end

/-! ### d.pop(k), a statement -/
section
variable {X : Cx} {W : L2.WX} {sc : Sc} {Γ : List Kd} {pos : Pos}
end
end VV

/-! ## VDict4 -/
namespace VV
open PySem PySem.Spec PyProof.Rows L2

/-! ### a dict is locked while its keys are walked -/
section
variable {mg : Mg} {P : Fm} {LL : List Nat} {g : Addr → Nat} {H : Hp} {a : Addr} {u : HO} {od : Obj}
end
section
variable {X : Cx} {W : L2.WX} {sc : Sc} {Γ Γ1 : List Kd} {pos : Pos}
end
end VV

/-! ## VDict5 -/
namespace VV
open PySem PySem.Spec PyProof.Rows L2

/-! ### {}, dict(d), list(d) -/
def dDicC : List D → Option D
  | [.dic false ks ds] => some (.dic false ks ds)
  | _ => none
def dKeysL : List D → Option D
  | [.dic false ks _] => some (.lst (ks.map Ky.d))
  | _ => none
section
variable {X : Cx} {LL : List Nat} {Γ : List Kd} {pos : Pos}
end
end VV

/-! ## VEqX -/
namespace PySem.SeqAt
open AutoSeq1 (wpAny_loadPart')
open MeetsSeq MeetsSeq2 MeetsSeq3 SeqRoads2
/-! ### != of lists whose items are told equal in one model -/
section
variable {prog : Program} {w : World} {l b : Addr} {xs ys : Array Value} {n m : Nat} {dd de : Option Addr} {sl sm : Array (Option Value)}
end
end PySem.SeqAt

/-! ## VEqY -/
namespace PySem.W
section
variable {prog : Program} {w : World} {K : Type} [DecidableEq K] {knd : PySem.KeyKind prog w K} {A : Around} {E : Value → Shared → Prop} {s : Shared}
end
end PySem.W
namespace VV
open PySem PySem.Spec PyProof.Rows L2

/-! ### equal things, dicts among them -/
section
variable {X : Cx} {pins : List (Addr × Obj)} {σ : L2.St} {H : Hp} {s : Shared}
end
section
variable {X : Cx}
end

/-! ### as trees -/
section
variable {mg : Mg} {H : Hp}
end
section
variable {X : Cx} {LL : List Nat} {Γ : List Kd} {pos : Pos} {a b : Expr} {sa sb : Ev} {ma mb : Md}
end
end VV

/-! ## VNeY -/
namespace VV
open PySem PySem.Spec PyProof.Rows L2
section
variable {prog : Program} {w : World} {K : Type} [DecidableEq K] {knd : KeyKind prog w K} {A : Around} {s : Shared}
open PyProof.V PySem.Calls in
end
section
variable {X : Cx} {pins : List (Addr × Obj)} {σ : L2.St} {H : Hp} {s : Shared}
end
section
variable {X : Cx}
end
section
variable {X : Cx} {LL : List Nat} {Γ : List Kd} {pos : Pos} {a b : Expr} {sa sb : Ev} {ma mb : Md}
end
end VV

/-! ## VIsi -/
namespace VV
open PySem PySem.Spec PyProof.Rows L2

/-! ### isinstance(x, T), T a built-in type -/
def D.tyN : D → Option String
  | .non => some "NoneType"
  | .bl _ => some "bool"
  | .int _ => some "int"
  | .str _ => some "str"
  | .tup _ => some "tuple"
  | .kti _ => some "tuple"
  | .lst _ => some "list"
  | .scr _ => some "list"
  | .dic false _ _ => some "dict"
  | _ => none
theorem rep_ty {mg : Mg} {H : Hp} {d : D} {v : V} {fp : List Addr} {n : String} (r : Rep mg H d v fp) (h : d.tyN = some n) : TyX mg.K H v (.type n) := by
  cases d with
  | non => cases h; rw [rNon r]; exact .base .non
  | bl b => cases h; rw [rBl r]; exact .base (.bl b)
  | int i => cases h; rw [rInt r]; exact .base (.int i)
  | str s => cases h; rw [rStr r]; exact .base (.str s)
  | kti l =>
    cases h
    simp only [Rep] at r
    obtain ⟨⟨a, o, rfl, e, _⟩, _⟩ := r
    exact .fTuple e
  | dix ks ds => cases h
  | tup l =>
    cases h
    simp only [Rep] at r
    obtain ⟨a, vs, rfl, e, _⟩ := r
    exact .base (.tup e)
  | lst l =>
    cases h
    simp only [Rep] at r
    obtain ⟨a, vs, f, rfl, e, _⟩ := r
    exact .base (.lst e)
  | scr l =>
    cases h
    simp only [Rep] at r
    obtain ⟨a, vs, rfl, e, _⟩ := r
    rcases e with ⟨o, e⟩ | ⟨o, its, n, e, c, _⟩
    · exact .base (.frz e)
    · exact .kList e c
  | dic tk ks l =>
    cases tk with
    | false =>
      cases h
      simp only [Rep] at r
      obtain ⟨a, vs, f, rfl, ⟨_, kl, _, e | ⟨o, e⟩⟩, _⟩ := r
      · exact .base (.dK e)
      · exact .fDict e
    | true => cases h
  | obj c ns fs => cases h
  | ktx l => cases h
  | fn x => cases h
def dIsi (T : String) : List D → Option D
  | [d] => d.tyN.bind fun n => (kitB n T).map .bl
  | _ => none
section
variable {X : Cx} {LL : List Nat} {Γ : List Kd} {pos p q : Pos} {e : Expr} {se : Ev} {m : Md}
theorem ex_isi {T : Str} {Ts : String} (hg : Gl X "isinstance") (hm : X.mg "isinstance" = none) (hv : bootBuiltins "isinstance" = some (.builtin "isinstance")) (gT : Gl X T) (mT : X.mg T = none) (vT : bootBuiltins T = some (.type Ts)) (he : EX X LL Γ e se m)
    (hn : T ≠ "__name__" := by decide) (hd : (T == ("__debug__" : Str)) = false := by decide)
    (hs : starEach [e, .Name T q] X.env = (false, eval e X.env) :: starEach [.Name T q] X.env := by rfl) (hs2 : starEach [.Name T q] X.env = (false, eval (.Name T q) X.env) :: starEach [] X.env := by rfl)
    (hpl : (backTo pos (starEach [.Name T q] X.env)).any (·.1) = false := by rfl) :
    EX X LL Γ (.Call (.Name "isinstance" p) [e, .Name T q] [] pos) (eP (dIsi Ts) (aCons se aNil)) .flat := by
  obtain ⟨t, pt, k⟩ := he
  have pT : PE X (.Name T q) (tC (.ty Ts)) := pe_bltn gT mT vT rfl hn hd
  refine ⟨_, pe_callB call_isi hg hm hv (pa_cons pt (pa_cons pT pa_nil hs2) hs) (by decide) (by decide) hs hpl, fun P g ρ σ H d Q s e0 q => ?_⟩
  obtain ⟨ds, e1, e0⟩ := bind_some e0
  obtain ⟨d1, ea, e1⟩ := bind_some e1
  obtain ⟨r1, er, e1⟩ := bind_some e1
  cases er; cases e1
  unfold dIsi at e0
  obtain ⟨n, hn', e0⟩ := bind_some e0
  simp only [Option.map_eq_some_iff] at e0
  obtain ⟨b, hb, rfl⟩ := e0
  refine k P g ρ σ H d1 _ s ea fun v H1 x1 w => ?_
  obtain ⟨fp, r, _⟩ := w.labs
  exact ⟨v, .ty Ts, .type n, .type Ts, b, rfl, .ty Ts, rep_ty r hn', kit_ty hb, q _ H1 x1 (val_flat rep_bl)⟩
end
end VV

/-! ## VPut -/
namespace VV
open PySem PySem.Spec PyProof.Rows L2

/-! ### x[j] = v, x a list in a slot -/
theorem repL_set {mg : Mg} {H : Hp} {d : D} {y : V} {fy : List Addr} (ry : Rep mg H d y fy) : ∀ {ds : List D} {vs : List V} {f : List Addr} {j : Nat}, RepL mg H ds vs f → j < ds.length →
    ∃ f', RepL mg H (ds.set j d) (vs.set j y) f' ∧ (∀ b ∈ f', b ∈ f ∨ b ∈ fy) ∧ (f.Nodup → fy.Nodup → (∀ b ∈ f, b ∉ fy) → f'.Nodup)
  | [], _, _, _, _, h => by simp at h
  | d0 :: ds, _, _, 0, h, _ => by
    simp only [RepL] at h
    obtain ⟨v, r, f1, f2, rfl, h1, h2, rfl⟩ := h
    refine ⟨fy ++ f2, ?_, fun b hb => (List.mem_append.mp hb).elim .inr fun z => .inl (List.mem_append_right _ z), fun n1 n2 dj => List.nodup_append.mpr ⟨n2, (List.nodup_append.mp n1).2.1, fun a ha b hb e => dj b (List.mem_append_right _ hb) (e ▸ ha)⟩⟩
    simp only [List.set_cons_zero, RepL]
    exact ⟨y, r, fy, f2, rfl, ry, h2, rfl⟩
  | d0 :: ds, _, _, j + 1, h, hj => by
    simp only [RepL] at h
    obtain ⟨v, r, f1, f2, rfl, h1, h2, rfl⟩ := h
    obtain ⟨f', g1, g2, g3⟩ := repL_set ry h2 (j := j) (by simpa using hj)
    refine ⟨f1 ++ f', ?_, fun b hb => ?_, fun n1 n2 dj => ?_⟩
    · simp only [List.set_cons_succ, RepL]
      exact ⟨v, _, f1, f', rfl, h1, g1, rfl⟩
    · rcases List.mem_append.mp hb with z | z
      · exact .inl (List.mem_append_left _ z)
      · exact (g2 b z).imp (fun q => List.mem_append_right _ q) id
    · obtain ⟨a1, a2, a3⟩ := List.nodup_append.mp n1
      refine List.nodup_append.mpr ⟨a1, g3 a2 n2 fun b hb => dj b (List.mem_append_right _ hb), fun a ha b hb e => ?_⟩
      rcases g2 b hb with q | q
      · exact a3 a ha b q e
      · exact dj a (List.mem_append_left _ ha) (e ▸ q)
def lPut : D → D → D → Option D
  | .lst l, .int k, v => (ixN l.length k).map fun j => .lst (l.set j v)
  | _, _, _ => none
section
variable {X : Cx} {W : L2.WX} {sc : Sc} {Γ : List Kd} {pos : Pos}
theorem sx_lput {i : Nat} {x : Str} {px pos' : Pos} {e j : Expr} {se sj : Ev} {m mj : Md} {n : Nat} {L : List Nat} {nd : Bool} (c : Nat) (hk : Γ[i]? = some (.lab (some n) L nd)) (hN : X.N[i]? = some x) (hv : Vis X.env.scope x)
    (he : EX X sc.LL Γ e se m) (hj : EX X sc.LL Γ j sj mj)
    (hn : n ≠ 0 := by decide) (hL : n ∉ sc.LL := by decide) (hm : n ∉ m.labs := by decide) (hc : c ≠ 0 := by decide) (hdb : (x == ("__debug__" : Str)) = false := by decide) (hcd : (x == ("__classdict__" : Str)) = false := by decide)
    (ha : ∀ v, assign (.Subscript (.Name x px) j pos') X.env v = (do
      let ov ← holding [v] (eval (.Name x px) X.env)
      let iv ← holding [v, ov] (eval j X.env)
      standAt pos'
      holding [v, ov, iv] (setItem ov iv v)
      release [v, ov, iv] []) := by intro _; rfl)
    (hs : swapsWithSole [.Subscript (.Name x px) j pos'] e pos.line X.env = pure false := by rfl) (hw : swappedStores [.Subscript (.Name x px) j pos'] e X.env = pure none := by rfl)
    (h1 : (assignEach [.Subscript (.Name x px) j pos'] X.env).map (·.2) = [assign (.Subscript (.Name x px) j pos') X.env] := by rfl) :
    SX X W sc Γ (.Assign [.Subscript (.Name x px) j pos'] e pos) (sPut lPut i sj se) ((killK n Γ).set i (Kd.push c (.lab (some n) L nd) m)) := by
  obtain ⟨t, pt, kk⟩ := he
  obtain ⟨tj, pj, kj⟩ := hj
  refine ⟨_, ps_asg pt (pg_sub (pe_var hN hv hdb hcd) pj set_list ha) hs hw h1, fun P g ρ σ H o De s e w => ?_⟩
  obtain ⟨d, e1, e⟩ := bind_some e
  obtain ⟨xk, e2, e⟩ := bind_some e
  obtain ⟨dd, e3, e⟩ := bind_some e
  obtain ⟨z, e4, e⟩ := bind_some e
  cases e
  obtain ⟨l', ov, h1, h2, h3⟩ := s.cells.get hk
  rw [e3] at h1; cases h1
  unfold lPut at e4
  split at e4
  · rename_i l k eq0
    simp only [Option.map_eq_some_iff] at e4
    obtain ⟨jj, ej, rfl⟩ := e4
    obtain ⟨v, fp, rfl, r, q, z⟩ := h3
    simp only [Rep] at r
    obtain ⟨a, vs, f, rfl, ho0, rl, rfl⟩ := r
    have hga : g a = n := root_lab q
    have haf : a ∉ f := z.2 rfl a f rfl rfl
    refine kk P g ρ σ H _ _ s e1 fun y H2 x2 wv => ?_
    refine ⟨.ref a, h2, ?_⟩
    refine kj P g ρ σ H2 _ _ (s.ext x2) e2 fun yk H3 x3 wk => ?_
    obtain ⟨fk, rk, _⟩ := wk.labs
    obtain rfl := rInt rk
    have x23 := x2.trans x3
    have ho3 : H3 a = some (.lst vs) := x23 a _ ho0
    obtain ⟨fy, ry, oy, ndy, lby⟩ := (wv.ext x3).pushed (c := c) s.loc hc
    have hay : a ∉ fy := fun hm' => by
      rcases lby a hm' with y | y
      · have := y.1; rw [ho0] at this; cases this
      · have := y.1; rw [hga] at this; exact hm this
    have st2 : Sta X.vm P sc.LL Γ (relab g H H3 .non c c) ρ σ H3 := s.relab x23
    have hg2 : relab g H H3 .non c c a = n := by rw [relab_old (by rw [ho0]; simp)]; exact hga
    have rl3 := rl.ext x23
    have hjl : jj < l.length := by
      unfold ixN at ej
      split at ej
      · split at ej <;> cases ej <;> omega
      · split at ej <;> cases ej <;> omega
    refine ⟨a, vs, k, jj, rfl, rfl, ho3, by rw [rl.length]; exact ej, ?_⟩
    obtain ⟨f', g1, g2, g3⟩ := repL_set ry rl3 hjl
    have haf' : a ∉ f' := fun hm => (g2 a hm).elim haf hay
    have oldf : ∀ b ∈ f, Old P g L b := fun b hb => by
      rcases q b (List.mem_cons_of_mem _ hb) with ⟨e, _⟩ | ⟨_, y⟩
      · cases e; exact absurd hb haf
      · exact y
    have cell : CellOk X.vm P (relab g H H3 .non c c) (upd H3 a (.lst (vs.set jj y))) (Kd.push c (.lab (some n) L nd) m) (.lst (l.set jj d)) (some (.ref a)) := by
      refine ⟨.ref a, a :: f', rfl, ?_, fun b hb => ?_, fun hn' => ?_, fun _ b g' e1 e2 => ?_⟩
      · simp only [Rep]
        exact ⟨a, _, f', rfl, upd_same, repL_upd g1 haf' ho3 trivial, rfl⟩
      · rcases List.mem_cons.mp hb with rfl | hb
        · exact .inl ⟨rfl, n, rfl, by rw [hg2]; exact List.mem_singleton.mpr rfl, fun z => by rw [hg2] at z; exact absurd z hn⟩
        · rcases g2 b hb with hb' | hb'
          · have y' := Old.relab (H' := H3) (v := .non) (n := c) (m := c) (oldf b hb') s.loc
            exact .inr ⟨.inl fun e => by cases e; exact haf hb', List.mem_append_left _ y'.1, y'.2⟩
          · have y' := oy b hb'
            exact .inr ⟨.inl fun e => by cases e; exact hay hb', List.mem_append_right _ y'.1, y'.2⟩
      · simp only [Bool.and_eq_true] at hn'
        obtain ⟨⟨n1, n2⟩, dj⟩ := hn'
        refine List.nodup_cons.mpr ⟨haf', g3 (List.nodup_cons.mp (z.1 n1)).2 (ndy n2) fun b hb hb' => ?_⟩
        rcases lby b hb' with y | y
        · exact (oldf b hb).there s.loc y.1
        · exact disj_ok dj (oldf b hb).1 y.1
      · cases e2
        exact haf'
    obtain ⟨s3, st3⟩ := st2.put (o' := .lst (vs.set jj y)) ho3 trivial trivial hg2 hn hL h2 cell
    exact w _ σ _ ((Step.relab x23).trans st3) s3
  · cases e4
end
end VV

/-! ## VDisp -/
namespace VV
open PySem PySem.Spec PyProof.Rows L2

/-! ### {k: v, ..}, keys ints and texts, values flat -/
def dDispA : List Ky → List D → List D → Option D
  | ks, vs, [] => some (.dic false ks vs)
  | ks, vs, k :: d :: r => match k.ky false with
    | some kk => dDispA (putKs ks kk) (putDs ks vs kk d) r
    | none => none
  | _, _, _ => none
def eDisp (a : List D → Option (List D)) : Ev := fun ρ => do dDispA [] [] (← a ρ)
section
variable {X : Cx} {LL : List Nat} {Γ : List Kd} {pos : Pos} {k v : Expr} {ks : List (Option Expr)} {vs : List Expr} {sk sv : Ev} {sr : List D → Option (List D)}
end
end VV

/-! ## VSimp -/
namespace VV
open PySem PySem.Spec PyProof.Rows L2
/-- keeps a lemma from being used without a trace -/
theorem of_rfl {α : Sort u} {a b : α} (h : a = b) : a = b := h

def _root_.Option.ob {α : Type u} {β : Type v} (o : Option α) (f : α → Option β) : Option β := o.bind f
@[simp] theorem ob_some {α : Type u} {β : Type v} {x : α} {f : α → Option β} : (some x).ob f = f x := of_rfl rfl
@[simp] theorem ob_none {α : Type u} {β : Type v} {f : α → Option β} : (none : Option α).ob f = none := of_rfl rfl
/-! ### the functions of trees, evaluated -/
def asB : D → Option Bool
  | .bl b => some b
  | _ => none
def asRet : Option Res → Option D
  | some (.ret d) => some d
  | _ => none
def asL : D → Option (List D)
  | .lst l => some l
  | .scr l => some l
  | _ => none
def asT : D → Option (List D)
  | .tup l => some l
  | _ => none
def outR : Option Out → Option Res
  | some (.nx _) => some (.ret .non)
  | some (.rt d) => some (.ret d)
  | some (.ex c _) => some (.exn c)
  | _ => none
def seqO (o : Option Out) (b : Sv) : Option Out := match o with
  | some (.nx ρ) => b ρ
  | o => o
section
variable {i n : Nat} {ρ : List D} {d : D} {e e1 e2 : Ev} {a r : List D → Option (List D)} {f : List D → Option D} {g : List D → Option Res} {p : D → Bool} {s1 s2 : Sv} {c c2 : List D → Option Bool} {t : Tv} {pk : List Kd} {ds : List D}
@[simp] theorem eVar_s : eVar i ρ = ρ[i]? := of_rfl rfl
@[simp] theorem eC_s : eC d ρ = some d := of_rfl rfl
@[simp] theorem aNil_s : aNil ρ = some [] := of_rfl rfl
@[simp] theorem aCons_s : aCons e a ρ = (e ρ).ob fun d => (a ρ).ob fun ds => some (d :: ds) := of_rfl rfl
@[simp] theorem eP_s : eP f a ρ = (a ρ).ob f := of_rfl rfl
@[simp] theorem eTup_s : eTup a ρ = (a ρ).ob fun ds => some (.tup ds) := of_rfl rfl
@[simp] theorem eLst_s : eLst a ρ = (a ρ).ob fun ds => some (.lst ds) := of_rfl rfl
@[simp] theorem eChk_s : eChk p e ρ = (e ρ).filter p := of_rfl rfl
@[simp] theorem tOf_s : tOf e ρ = (e ρ).ob asB := by
  unfold tOf
  cases e ρ with
  | none => rfl
  | some d => cases d <;> rfl
@[simp] theorem asB_s {b : Bool} : asB (.bl b) = some b := of_rfl rfl
@[simp] theorem eCall_s : eCall g a ρ = (a ρ).ob fun ds => asRet (g ds) := by
  unfold eCall
  cases a ρ with
  | none => rfl
  | some ds =>
    show (match g ds with | some (.ret d) => some d | _ => none) = asRet (g ds)
    cases g ds with
    | none => rfl
    | some r => cases r <;> rfl
@[simp] theorem asRet_s : asRet (some (.ret d)) = some d := of_rfl rfl
@[simp] theorem sNil_s : sNil ρ = some (.nx ρ) := of_rfl rfl
@[simp] theorem sPass_s : sPass ρ = some (.nx ρ) := of_rfl rfl
@[simp] theorem sCont_s : sCont ρ = some (.ct ρ) := of_rfl rfl
@[simp] theorem sRetN_s : sRetN ρ = some (.rt .non) := of_rfl rfl
@[simp] theorem sSeq_s : sSeq s1 s2 ρ = seqO (s1 ρ) s2 := by
  unfold sSeq seqO
  cases s1 ρ with
  | none => rfl
  | some o => cases o <;> rfl
@[simp] theorem seqO_nx : seqO (some (.nx ρ)) s2 = s2 ρ := of_rfl rfl
@[simp] theorem seqO_rt : seqO (some (.rt d)) s2 = some (.rt d) := of_rfl rfl
@[simp] theorem seqO_ct : seqO (some (.ct ρ)) s2 = some (.ct ρ) := of_rfl rfl
@[simp] theorem sRet_s : sRet e ρ = (e ρ).ob fun d => some (.rt d) := of_rfl rfl
@[simp] theorem sSet_s : sSet i e ρ = (e ρ).ob fun d => some (.nx (ρ.set i d)) := of_rfl rfl
@[simp] theorem sAsg_s : sAsg t e ρ = (e ρ).ob fun d => (t d ρ).ob fun ρ' => some (.nx ρ') := of_rfl rfl
theorem sIf_s : sIf c s1 s2 ρ = (c ρ).ob fun b => if b then s1 ρ else s2 ρ := rfl
@[simp] theorem sIf_t (h : c ρ = some true) : sIf c s1 s2 ρ = s1 ρ := by rw [sIf_s, h]; rfl
@[simp] theorem sIf_f (h : c ρ = some false) : sIf c s1 s2 ρ = s2 ρ := by rw [sIf_s, h]; rfl
@[simp] theorem wAnd_s : wAnd c c2 ρ = (c ρ).ob fun b => if b then c2 ρ else some false := of_rfl rfl
@[simp] theorem wOr_s : wOr c c2 ρ = (c ρ).ob fun b => if b then some true else c2 ρ := of_rfl rfl
@[simp] theorem wNot_s : wNot c ρ = (c ρ).ob fun b => some (!b) := of_rfl rfl
@[simp] theorem vNot_s : vNot e ρ = (e ρ).ob fun d => (asB d).ob fun b => some (.bl (!b)) := by
  unfold vNot
  cases e ρ with
  | none => rfl
  | some d => cases d <;> rfl
@[simp] theorem vAnd_s : vAnd e1 e2 ρ = (e1 ρ).ob fun d => (asB d).ob fun b => if b then e2 ρ else some (.bl false) := by
  unfold vAnd
  cases e1 ρ with
  | none => rfl
  | some d =>
    cases d with
    | bl b => cases b <;> rfl
    | _ => rfl
@[simp] theorem vOr_s : vOr e1 e2 ρ = (e1 ρ).ob fun d => (asB d).ob fun b => if b then some (.bl true) else e2 ρ := by
  unfold vOr
  cases e1 ρ with
  | none => rfl
  | some d =>
    cases d with
    | bl b => cases b <;> rfl
    | _ => rfl
@[simp] theorem cYes_s : cYes ρ = some true := of_rfl rfl
@[simp] theorem gN_s : gN i d ρ = some (ρ.set i d) := of_rfl rfl
@[simp] theorem gF_s : gF t d ρ = if d.isFlat then t d ρ else none := of_rfl rfl
@[simp] theorem gT_s {l : List D} {ts : List D → List D → Option (List D)} : gT ts (.tup l) ρ = ts l ρ := of_rfl rfl
@[simp] theorem gL_s {l : List D} {ts : List D → List D → Option (List D)} : gL ts (.lst l) ρ = ts l ρ := of_rfl rfl
@[simp] theorem gsNil_s : gsNil [] ρ = some ρ := of_rfl rfl
@[simp] theorem gsCons_s {l : List D} {ts : List D → List D → Option (List D)} : gsCons t ts (d :: l) ρ = (t d ρ).ob fun ρ' => ts l ρ' := of_rfl rfl
@[simp] theorem fl_non : D.non.isFlat = true := of_rfl rfl
@[simp] theorem fl_int {k : Int} : (D.int k).isFlat = true := of_rfl rfl
@[simp] theorem fl_bl {k : Bool} : (D.bl k).isFlat = true := of_rfl rfl
@[simp] theorem fl_str {k : Str} : (D.str k).isFlat = true := of_rfl rfl
@[simp] theorem fl_scr {k : List D} : (D.scr k).isFlat = true := of_rfl rfl
@[simp] theorem fl_fn {k : Str} : (D.fn k).isFlat = true := of_rfl rfl
@[simp] theorem fl_tup {k : List D} : (D.tup k).isFlat = D.isFlatL k := by simp only [D.isFlat]
@[simp] theorem fl_lst {k : List D} : (D.lst k).isFlat = false := by simp only [D.isFlat]
@[simp] theorem flL_nil : D.isFlatL [] = true := by simp only [D.isFlatL]
@[simp] theorem flL_cons {k : List D} : D.isFlatL (d :: k) = (d.isFlat && D.isFlatL k) := by simp only [D.isFlatL]
@[simp] theorem flL_ints {k : List Int} : D.isFlatL (k.map D.int) = true := by
  induction k with
  | nil => rfl
  | cons a r ih => simp only [List.map_cons, flL_cons, fl_int, ih, Bool.and_self]
@[simp] theorem kf_lst {k : List D} : (D.lst k).kidsFlat = D.isFlatL k := of_rfl rfl
theorem fn_s (h : pkOk pk ds = true) : fnSem n pk s1 ds = outR (s1 (ds ++ List.replicate (n - ds.length) .non)) := by
  unfold fnSem
  refine (if_pos h).trans ?_
  unfold outR
  cases s1 (ds ++ List.replicate (n - ds.length) .non) with
  | none => rfl
  | some o => cases o <;> rfl
@[simp] theorem outR_rt : outR (some (.rt d)) = some (.ret d) := of_rfl rfl
@[simp] theorem outR_nx : outR (some (.nx ρ)) = some (.ret .non) := of_rfl rfl
@[simp] theorem pk_nil : pkOk [] [] = true := of_rfl rfl
@[simp] theorem pk_flat {k : List D} : pkOk (.flat :: pk) (d :: k) = (d.isFlat && pkOk pk k) := of_rfl rfl
@[simp] theorem pk_lab {k : List D} : pkOk (.lab none [0] false :: pk) (d :: k) = pkOk pk k := of_rfl rfl

@[simp] theorem dI2_s {h : Int → Int → Int} {x y : Int} : dI2 h [.int x, .int y] = some (.int (h x y)) := of_rfl rfl
@[simp] theorem dB2_s {h : Int → Int → Bool} {x y : Int} : dB2 h [.int x, .int y] = some (.bl (h x y)) := of_rfl rfl
@[simp] theorem dI1_s {h : Int → Int} {x : Int} : dI1 h [.int x] = some (.int (h x)) := of_rfl rfl
theorem dMul_s {x y : Int} (h : CMulX x y) : dMul [.int x, .int y] = some (.int (x * y)) := if_pos h
theorem dDiv_s {x y : Int} (h : CDivW x y) : dDiv [.int x, .int y] = some (.int (x / y)) := if_pos h
@[simp] theorem dMod_s {x y : Int} (h : 0 < y) : dMod [.int x, .int y] = some (.int (x % y)) := if_pos h
theorem dPow_s {x y : Int} (h : CPow x y) : dPow [.int x, .int y] = some (.int (x ^ y.toNat)) := if_pos h
theorem pow_e {a b c : Int} (h : CPow a b) (e : a ^ b.toNat = c) : eP dPow (aCons (eC (.int a)) (aCons (eC (.int b)) aNil)) = eC (.int c) := by
  funext ρ
  rw [← e]
  exact dPow_s h
@[simp] theorem dLen_l {l : List D} : dLen [.lst l] = some (.int l.length) := of_rfl rfl
@[simp] theorem dLen_c {l : List D} : dLen [.scr l] = some (.int l.length) := of_rfl rfl
@[simp] theorem dLen_t {l : List D} : dLen [.tup l] = some (.int l.length) := of_rfl rfl
@[simp] theorem dIdx_l {l : List D} {k : Int} : dIdx [.lst l, .int k] = atI l k := of_rfl rfl
@[simp] theorem dIdx_c {l : List D} {k : Int} : dIdx [.scr l, .int k] = atI l k := of_rfl rfl
@[simp] theorem dIdx_t {l : List D} {k : Int} : dIdx [.tup l, .int k] = atI l k := of_rfl rfl
theorem atI_n {α : Type} {l : List α} {k : Nat} : atI l (k : Int) = l[k]? := by
  unfold atI ixN
  rw [if_pos (by omega)]
  by_cases h : k < l.length
  · rw [if_pos (by omega)]; simp
  · rw [if_neg (by omega)]; simp; omega
theorem atI_of {α : Type} {l : List α} {z : Int} {k : Nat} (h : z = k) : atI l z = l[k]? := by rw [h]; exact atI_n
@[simp] theorem atI_0 {α : Type} {l : List α} : atI l 0 = l[0]? := atI_of (k := 0) rfl
@[simp] theorem atI_lit {α : Type} {l : List α} {n : Nat} : atI l (no_index (OfNat.ofNat n : Int)) = l[(OfNat.ofNat n : Nat)]? := atI_of (k := n) rfl
@[simp] theorem atI_1 {α : Type} {l : List α} : atI l 1 = l[1]? := atI_of (k := 1) rfl
@[simp] theorem dInt_i {k : Int} : dIntC [.int k] = some (.int k) := of_rfl rfl
@[simp] theorem dInt_b {k : Bool} : dIntC [.bl k] = some (.int (if k then 1 else 0)) := of_rfl rfl
@[simp] theorem eLc_s {it : List D → Option (List D)} : eLc it t c e ρ = (it ρ).ob fun xs => (lcL t c e ρ xs).ob fun ys => some (.lst ys) := of_rfl rfl
@[simp] theorem iLst_s : iLst e ρ = (e ρ).ob asL := by
  unfold iLst
  cases e ρ with
  | none => rfl
  | some d => cases d <;> rfl
@[simp] theorem iTupl_s : iTupl e ρ = (e ρ).ob asT := by
  unfold iTupl
  cases e ρ with
  | none => rfl
  | some d => cases d <;> rfl
@[simp] theorem asL_l {l : List D} : asL (.lst l) = some l := of_rfl rfl
@[simp] theorem asL_c {l : List D} : asL (.scr l) = some l := of_rfl rfl
@[simp] theorem asT_t {l : List D} : asT (.tup l) = some l := of_rfl rfl
@[simp] theorem sFor_s {it : List D → Option (List D)} {b : Sv} : sFor it t b ρ = (it ρ).ob fun xs => forL t b xs ρ := of_rfl rfl
@[simp] theorem sMut_s {h : D → D → Option D} : sMut h i e ρ = (e ρ).ob fun y => (ρ[i]?).ob fun x => (h x y).ob fun z => some (.nx (ρ.set i z)) := of_rfl rfl
theorem dPush_s {l : List D} (h : l.length < 1000000) : dPush (.lst l) d = some (.lst (l ++ [d])) := if_pos h
theorem iRng1_s {k : Int} (h : a ρ = some [.int k]) (h1 : k ≤ 10000000) (h2 : -10000000 ≤ k) : iRng a ρ = some (rngD 0 k.toNat) := by
  unfold iRng
  rw [h]
  exact if_pos ⟨h1, h2⟩
theorem iRng2_s {j k : Int} (h : a ρ = some [.int j, .int k]) (h1 : k ≤ 10000000) (h2 : -10000000 ≤ j) (h3 : j ≤ 10000000) (h4 : -10000000 ≤ k) (h5 : k - j ≤ 10000000) : iRng a ρ = some (rngD j (k - j).toNat) := by
  unfold iRng
  rw [h]
  exact if_pos ⟨h1, h2, h3, h4, h5⟩
theorem rng0 {k : Nat} : rngD 0 k = (List.range k).map fun i : Nat => D.int i := by
  unfold rngD
  apply List.map_congr_left
  intro i _
  simp
theorem iZip_s {l r : List D} (h : a ρ = some [.lst l, .lst r]) : iZipL a ρ = some ((l.zip r).map fun p => .tup [p.1, p.2]) := by
  unfold iZipL
  rw [h]
  rfl
@[simp] theorem iEnum_s : iEnumL e ρ = (e ρ).ob fun d => match d with | .lst l => some (l.mapIdx fun i d => .tup [.int i, d]) | _ => none := of_rfl rfl
@[simp] theorem oNone_s : oNone ρ = some none := of_rfl rfl
@[simp] theorem oSome_s : oSome e ρ = (e ρ).ob fun d => match d with | .int i => some (some i) | _ => none := of_rfl rfl
@[simp] theorem eSl_s {lo hi : List D → Option (Option Int)} : eSl e lo hi ρ = (e ρ).ob fun d => (lo ρ).ob fun l => (hi ρ).ob fun h => dSl d l h := of_rfl rfl
@[simp] theorem dSl_l {l : List D} {lo hi : Option Int} : dSl (.lst l) lo hi = some (.lst (cutG l lo hi)) := of_rfl rfl
theorem dSl_t {l : List D} {lo hi : Option Int} (_ : ¬ (HT.sIx l.length 0 lo = 0 ∧ HT.sIx l.length l.length hi = l.length)) : dSl (.tup l) lo hi = some (.tup (cutG l lo hi)) := rfl
theorem cutG_map {α β : Type} {l : List α} {f : α → β} {lo hi : Option Int} : cutG (l.map f) lo hi = (cutG l lo hi).map f := by
  unfold cutG
  simp [List.map_take, List.map_drop]
end

/-! ### comprehensions, loops -/
theorem lcL_map {α : Type} {t : Tv} {c : List D → Option Bool} {e : Ev} {ρ : List D} (x : α → D) (y : α → D) : ∀ l : List α, (∀ a ∈ l, ∃ ρ1, t (x a) ρ = some ρ1 ∧ c ρ1 = some true ∧ e ρ1 = some (y a)) → lcL t c e ρ (l.map x) = some (l.map y)
  | [], _ => rfl
  | a :: r, h => by
    obtain ⟨ρ1, h1, h2, h3⟩ := h a List.mem_cons_self
    have ih := lcL_map x y r fun b hb => h b (List.mem_cons_of_mem _ hb)
    show lcL t c e ρ (x a :: r.map x) = _
    unfold lcL
    rw [h1]
    simp [h2, h3, ih]
theorem lcL_filter {α : Type} {t : Tv} {c : List D → Option Bool} {e : Ev} {ρ : List D} (x : α → D) (p : α → Bool) (y : α → D) : ∀ l : List α, (∀ a ∈ l, ∃ ρ1, t (x a) ρ = some ρ1 ∧ c ρ1 = some (p a) ∧ (p a = true → e ρ1 = some (y a))) → lcL t c e ρ (l.map x) = some ((l.filter p).map y)
  | [], _ => rfl
  | a :: r, h => by
    obtain ⟨ρ1, h1, h2, h3⟩ := h a List.mem_cons_self
    have ih := lcL_filter x p y r fun b hb => h b (List.mem_cons_of_mem _ hb)
    show lcL t c e ρ (x a :: r.map x) = _
    unfold lcL
    rw [h1]
    cases hp : p a with
    | true => simp [h2, hp, h3 hp, ih]
    | false => simp [h2, hp, ih]
/-- the same by places: the invariant speaks of how many items are done -/
theorem forL_inv {α : Type} {t : Tv} {b : Sv} (x : α → D) (l : List α) (R : Nat → List D → Prop) (ρ : List D) (h0 : R 0 ρ)
    (k : ∀ (i : Nat) (a : α) (ρ : List D), l[i]? = some a → R i ρ → ∃ ρ1 ρ2, t (x a) ρ = some ρ1 ∧ (b ρ1 = some (.nx ρ2) ∨ b ρ1 = some (.ct ρ2)) ∧ R (i + 1) ρ2) : ∃ ρ', forL t b (l.map x) ρ = some (.nx ρ') ∧ R l.length ρ' := by
  have gen : ∀ (m : Nat) (i : Nat) (ρ : List D), m = l.length - i → i ≤ l.length → R i ρ → ∃ ρ', forL t b ((l.drop i).map x) ρ = some (.nx ρ') ∧ R l.length ρ' := by
    intro m
    induction m with
    | zero =>
      intro i ρ hm hi h
      have : i = l.length := by omega
      subst this
      exact ⟨ρ, by simp [forL], h⟩
    | succ m ih =>
      intro i ρ hm hi h
      have hlt : i < l.length := by omega
      obtain ⟨ρ1, ρ2, h1, h2, h3⟩ := k i l[i] ρ (List.getElem?_eq_getElem hlt) h
      obtain ⟨ρ', h4, h5⟩ := ih (i + 1) ρ2 (by omega) hlt h3
      refine ⟨ρ', ?_, h5⟩
      rw [List.drop_eq_getElem_cons hlt]
      show forL t b (x l[i] :: (l.drop (i + 1)).map x) ρ = _
      unfold forL
      rw [h1]
      dsimp only
      rcases h2 with h2 | h2 <;> rw [h2] <;> exact h4
  have := gen l.length 0 ρ (by simp) (Nat.zero_le _) h0
  simpa using this
end VV

/-! ## VSimp2 -/
namespace VV
open PySem PySem.Spec PyProof.Rows L2
/-! ### the trees of dicts, evaluated -/
section
variable {i n : Nat} {ρ : List D} {d : D} {e e1 e2 : Ev} {tk : Bool} {ks : List Ky} {l : List D} {t : Tv} {b : Sv}
@[simp] theorem sPut_s {f : D → D → D → Option D} : sPut f i e1 e2 ρ = (e2 ρ).ob fun v => (e1 ρ).ob fun x => (ρ[i]?).ob fun d => (f d x v).ob fun z => some (.nx (ρ.set i z)) := of_rfl rfl
@[simp] theorem kyF_int {k : Int} : (D.int k).ky false = some (.k (.inl k)) := of_rfl rfl
@[simp] theorem dGet_s {x : D} : dGet [.dic tk ks l, x] = (x.ky tk).ob (lkD ks l) := of_rfl rfl
@[simp] theorem dGet2_s {x z : D} : dGet2 [.dic tk ks l, x, z] = (x.ky tk).map fun k => (lkD ks l k).getD z := of_rfl rfl
@[simp] theorem dIn_s {x : D} : dIn [x, .dic tk ks l] = (x.ky tk).map fun k => .bl (lkD ks l k).isSome := of_rfl rfl
@[simp] theorem dKeysL_s : dKeysL [.dic false ks l] = some (.lst (ks.map Ky.d)) := of_rfl rfl
@[simp] theorem dDicC_s : dDicC [.dic false ks l] = some (.dic false ks l) := of_rfl rfl
@[simp] theorem eDisp_s {a : List D → Option (List D)} : eDisp a ρ = (a ρ).ob (dDispA [] []) := of_rfl rfl
theorem isi_s {T N : String} {r : Bool} (h : d.tyN = some N) (hk : kitB N T = some r) : dIsi T [d] = some (.bl r) := by
  unfold dIsi
  simp only [h, Option.bind_some, hk, Option.map_some]
theorem kit_dd : kitB "dict" "dict" = some true := by decide +kernel
theorem kit_ii : kitB "int" "int" = some true := by decide +kernel
theorem kit_ib : kitB "int" "bool" = some false := by decide +kernel
@[simp] theorem isi_dict : dIsi "dict" [.dic false ks l] = some (.bl true) := isi_s (N := "dict") rfl kit_dd
@[simp] theorem isi_int {k : Int} : dIsi "int" [.int k] = some (.bl true) := isi_s (N := "int") rfl kit_ii
@[simp] theorem isi_intb {k : Int} : dIsi "bool" [.int k] = some (.bl false) := isi_s (N := "int") rfl kit_ib
end
end VV

/-! ## VGo -/
/-! walking through trees: a statement goes to an out that keeps Q -/
namespace VV
open PySem PySem.Spec PyProof.Rows L2
theorem beq_dec {α : Type} [BEq α] [LawfulBEq α] [DecidableEq α] (a b : α) : (a == b) = decide (a = b) := by rw [Bool.eq_iff_iff]; simp
theorem mul_e {a b c : Int} (h : CMulX a b) (e : a * b = c) : eP dMul (aCons (eC (.int a)) (aCons (eC (.int b)) aNil)) = eC (.int c) := by
  funext ρ
  rw [← e]
  exact dMul_s h
section
variable {X : Cx} {LL : List Nat} {Γ : List Kd} {e : Expr} {a b c : Int}
theorem ex_powc (h : EX X LL Γ e (eP dPow (aCons (eC (.int a)) (aCons (eC (.int b)) aNil))) .flat) (hc : CPow a b) (he : a ^ b.toNat = c) : EX X LL Γ e (eC (.int c)) .flat := by rw [← pow_e hc he]; exact h
theorem ex_mulc (h : EX X LL Γ e (eP dMul (aCons (eC (.int a)) (aCons (eC (.int b)) aNil))) .flat) (hc : CMulX a b) (he : a * b = c) : EX X LL Γ e (eC (.int c)) .flat := by rw [← mul_e hc he]; exact h
end
theorem idx_mod (l : List Int) (n x : Int) (hn : n = l.length) (h : 0 < l.length) : ∃ v ∈ l, dIdx [.lst (l.map D.int), .int (x % n)] = some (.int v) := by
  have h1 := Int.emod_nonneg x (b := n) (by omega)
  have h2 := Int.emod_lt_of_pos x (b := n) (by omega)
  have h3 : (x % n).toNat < l.length := by omega
  refine ⟨l[(x % n).toNat], List.getElem_mem h3, ?_⟩
  rw [dIdx_l, atI_of (k := (x % n).toNat) (by omega)]
  simp [h3]
def Go (s : Sv) (ρ : List D) (Q : Out → Prop) : Prop := ∃ o, s ρ = some o ∧ Q o
def Cont (b : Sv) (Q : Out → Prop) : Out → Prop
  | .nx ρ => Go b ρ Q
  | o => Q o
section
variable {i n : Nat} {ρ : List D} {d : D} {e e1 e2 : Ev} {s1 s2 a b : Sv} {c : List D → Option Bool} {t : Tv} {pk : List Kd} {ds : List D} {Q : Out → Prop}
theorem Go.mono {Q' : Out → Prop} (h : Go a ρ Q) (k : ∀ o, Q o → Q' o) : Go a ρ Q' := by
  obtain ⟨o, h1, h2⟩ := h
  exact ⟨o, h1, k o h2⟩
@[simp] theorem cont_nx : Cont b Q (.nx ρ) = Go b ρ Q := of_rfl rfl
@[simp] theorem cont_rt : Cont b Q (.rt d) = Q (.rt d) := of_rfl rfl
@[simp] theorem cont_ct : Cont b Q (.ct ρ) = Q (.ct ρ) := of_rfl rfl
@[simp] theorem go_seq : Go (sSeq a b) ρ Q = Go a ρ (Cont b Q) := by
  unfold Go
  rw [sSeq_s]
  cases h : a ρ with
  | none => simp [seqO]
  | some o =>
    cases o with
    | nx r => simp [seqO, Cont, Go]
    | _ => simp [seqO, Cont]
@[simp] theorem go_nil : Go sNil ρ Q = Q (.nx ρ) := by simp [Go]
@[simp] theorem go_pass : Go sPass ρ Q = Q (.nx ρ) := by simp [Go]
@[simp] theorem go_ct : Go sCont ρ Q = Q (.ct ρ) := by simp [Go]
@[simp] theorem go_retN : Go sRetN ρ Q = Q (.rt .non) := by simp [Go]
@[simp] theorem go_set : Go (sSet i e) ρ Q = ∃ d, e ρ = some d ∧ Q (.nx (ρ.set i d)) := by
  unfold Go
  rw [sSet_s]
  cases e ρ <;> simp
@[simp] theorem go_ret : Go (sRet e) ρ Q = ∃ d, e ρ = some d ∧ Q (.rt d) := by
  unfold Go
  rw [sRet_s]
  cases e ρ <;> simp
@[simp] theorem go_asg : Go (sAsg t e) ρ Q = ∃ d, e ρ = some d ∧ ∃ ρ', t d ρ = some ρ' ∧ Q (.nx ρ') := by
  unfold Go
  rw [sAsg_s]
  cases e ρ with
  | none => simp
  | some d => cases h : t d ρ <;> simp [h]
@[simp] theorem go_mut {f : D → D → Option D} : Go (sMut f i e) ρ Q = ∃ y, e ρ = some y ∧ ∃ x, ρ[i]? = some x ∧ ∃ z, f x y = some z ∧ Q (.nx (ρ.set i z)) := by
  unfold Go
  rw [sMut_s]
  cases e ρ with
  | none => simp
  | some y =>
    cases h : ρ[i]? with
    | none => simp
    | some x => cases h2 : f x y <;> simp [h2]
@[simp] theorem go_put {f : D → D → D → Option D} : Go (sPut f i e1 e2) ρ Q = ∃ v, e2 ρ = some v ∧ ∃ x, e1 ρ = some x ∧ ∃ d, ρ[i]? = some d ∧ ∃ z, f d x v = some z ∧ Q (.nx (ρ.set i z)) := by
  unfold Go
  rw [sPut_s]
  cases e2 ρ with
  | none => simp
  | some v =>
    cases e1 ρ with
    | none => simp
    | some x =>
      cases h : ρ[i]? with
      | none => simp
      | some d => cases h2 : f d x v <;> simp [h2]
theorem Go.set (h : e ρ = some d) (k : Go b (ρ.set i d) Q) : Go (sSeq (sSet i e) b) ρ Q := by
  rw [go_seq, go_set]; exact ⟨d, h, k⟩
theorem Go.set1 (h : e ρ = some d) (k : Q (.nx (ρ.set i d))) : Go (sSet i e) ρ Q := by
  rw [go_set]; exact ⟨d, h, k⟩
theorem Go.ret (h : e ρ = some d) (k : Q (.rt d)) : Go (sRet e) ρ Q := by
  rw [go_ret]; exact ⟨d, h, k⟩
theorem Go.asg {ρ' : List D} (h : e ρ = some d) (h2 : t d ρ = some ρ') (k : Go b ρ' Q) : Go (sSeq (sAsg t e) b) ρ Q := by
  rw [go_seq, go_asg]; exact ⟨d, h, ρ', h2, k⟩
theorem Go.mut {f : D → D → Option D} {x y z : D} (h : e ρ = some y) (h1 : ρ[i]? = some x) (h2 : f x y = some z) (k : Go b (ρ.set i z) Q) : Go (sSeq (sMut f i e) b) ρ Q := by
  rw [go_seq, go_mut]; exact ⟨y, h, x, h1, z, h2, k⟩
theorem Go.mut1 {f : D → D → Option D} {x y z : D} (h : e ρ = some y) (h1 : ρ[i]? = some x) (h2 : f x y = some z) (k : Q (.nx (ρ.set i z))) : Go (sMut f i e) ρ Q := by
  rw [go_mut]; exact ⟨y, h, x, h1, z, h2, k⟩
theorem Go.put {f : D → D → D → Option D} {x y v z : D} (h : e2 ρ = some v) (h0 : e1 ρ = some x) (h1 : ρ[i]? = some y) (h2 : f y x v = some z) (k : Go b (ρ.set i z) Q) : Go (sSeq (sPut f i e1 e2) b) ρ Q := by
  rw [go_seq, go_put]; exact ⟨v, h, x, h0, y, h1, z, h2, k⟩
theorem Go.put1 {f : D → D → D → Option D} {x y v z : D} (h : e2 ρ = some v) (h0 : e1 ρ = some x) (h1 : ρ[i]? = some y) (h2 : f y x v = some z) (k : Q (.nx (ρ.set i z))) : Go (sPut f i e1 e2) ρ Q := by
  rw [go_put]; exact ⟨v, h, x, h0, y, h1, z, h2, k⟩
theorem go_if : Go (sIf c a b) ρ Q = ∃ t, c ρ = some t ∧ Go (if t then a else b) ρ Q := by
  unfold Go
  rw [sIf_s]
  cases c ρ with
  | none => simp
  | some t => cases t <;> simp
theorem go_t (h : c ρ = some true) : Go (sIf c a b) ρ Q = Go a ρ Q := by rw [go_if, h]; simp
theorem go_f (h : c ρ = some false) : Go (sIf c a b) ρ Q = Go b ρ Q := by rw [go_if, h]; simp
/-- if p: a, else b, where the test tells whether p -/
theorem go_ite {p : Prop} [Decidable p] (h : c ρ = some (decide p)) (h1 : p → Go a ρ Q) (h2 : ¬ p → Go b ρ Q) : Go (sIf c a b) ρ Q := by
  by_cases hp : p
  · rw [go_t (by rw [h]; simp [hp])]; exact h1 hp
  · rw [go_f (by rw [h]; simp [hp])]; exact h2 hp
/-- a test that does not hold, with nothing else to do -/
theorem Go.no (h : c ρ = some false) (k : Go b ρ Q) : Go (sSeq (sIf c a sNil) b) ρ Q := by rw [go_seq, go_f h, go_nil]; exact k
theorem fn_go {r : Res} {m : Sv} (hp : pkOk pk ds = true) (h : Go m (ds ++ List.replicate (n - ds.length) .non) (fun o => outR (some o) = some r)) : fnSem n pk m ds = some r := by
  rw [fn_s hp]
  obtain ⟨o, h1, h2⟩ := h
  rw [h1]; exact h2
theorem fn_ex {P : D → Prop} {m : Sv} (hp : pkOk pk ds = true) (h : Go m (ds ++ List.replicate (n - ds.length) .non) (fun o => ∃ d, o = .rt d ∧ P d)) : ∃ d, fnSem n pk m ds = some (.ret d) ∧ P d := by
  obtain ⟨o, h1, d, rfl, h2⟩ := h
  exact ⟨d, by rw [fn_s hp, h1]; rfl, h2⟩
/-- one turn of a loop -/
def Turn (t : Tv) (b : Sv) (R : List D → Prop) (d : D) (ρ : List D) : Prop := ∃ ρ1, t d ρ = some ρ1 ∧ Go b ρ1 fun o => ∃ ρ2, (o = .nx ρ2 ∨ o = .ct ρ2) ∧ R ρ2
theorem for_turns {α : Type} (x : α → D) (l : List α) (R : Nat → List D → Prop) (h0 : R 0 ρ) (k : ∀ i a ρ, l[i]? = some a → R i ρ → Turn t b (R (i + 1)) (x a) ρ) : ∃ ρ', forL t b (l.map x) ρ = some (.nx ρ') ∧ R l.length ρ' :=
  forL_inv x l R ρ h0 fun i a ρ hi h => by
    obtain ⟨ρ1, h1, o, h2, ρ2, h3, h4⟩ := k i a ρ hi h
    refine ⟨ρ1, ρ2, h1, ?_, h4⟩
    rcases h3 with rfl | rfl
    · exact .inl h2
    · exact .inr h2
theorem go_for {α : Type} {it : List D → Option (List D)} (x : α → D) (l : List α) (R : Nat → List D → Prop) (hit : it ρ = some (l.map x)) (h0 : R 0 ρ) (k : ∀ i a ρ, l[i]? = some a → R i ρ → Turn t b (R (i + 1)) (x a) ρ)
    (fin : ∀ ρ', R l.length ρ' → Q (.nx ρ')) : Go (sFor it t b) ρ Q := by
  obtain ⟨ρ', h1, h2⟩ := for_turns x l R h0 k
  refine ⟨_, ?_, fin ρ' h2⟩
  rw [sFor_s, hit]
  exact h1
end
end VV

/-! ## VTab -/
namespace VP
open PySem PySem.Spec PyProof.Rows L2 VV
def m_unit : Sv :=
  (sRet (eTup (aCons (eVar 0) (aCons (eVar 0) (aCons (eLc (iRng (aCons (eVar 0) aNil)) (gN 1) cYes (eLc (iRng (aCons (eVar 0) aNil)) (gN 2) cYes (eP dIntC (aCons (eP dEq (aCons (eVar 1) (aCons (eVar 2) aNil))) aNil)))) aNil)))))
def f_unit : List D → Option Res := fnSem 3 [.flat] m_unit
def m__law_cell_at : Sv :=
  (sSeq (sIf (tOf (eP dLt (aCons (eVar 1) (aCons (eP dLen (aCons (eVar 0) aNil)) aNil))))
  (sRet (eP dIdx (aCons (eVar 0) (aCons (eVar 1) aNil))))
  sNil)
  (sRet (eC (.int 0))))
def f__law_cell_at : List D → Option Res := fnSem 2 [.flat, .flat] m__law_cell_at
def m__law_row : Sv :=
  (sSeq (sSet 3 (eP dDiv (aCons (eVar 0) (aCons (eC (.int 2)) aNil))))
  (sSeq (sSet 4 (eLst aNil))
  (sSeq (sSet 5 (eVar 3))
  (sSeq (sFor (iRng (aCons (eVar 1) aNil)) (gN 6)
  (sSet 5 (eP dDiv (aCons (eVar 5) (aCons (eVar 2) aNil)))))
  (sSeq (sFor (iRng (aCons (eVar 1) aNil)) (gN 6)
  (sIf (tOf (eP dGt (aCons (eVar 5) (aCons (eC (.int 0)) aNil))))
  (sSeq (sMut dPush 4 (eP dMod (aCons (eVar 3) (aCons (eVar 2) aNil))))
  (sSet 3 (eP dDiv (aCons (eVar 3) (aCons (eVar 2) aNil)))))
  (sSeq (sSet 7 (eP dMod (aCons (eP dMul (aCons (eP dAdd (aCons (eP dAdd (aCons (eP dAdd (aCons (eP dMod (aCons (eVar 3) (aCons (eC (.int 2147483629)) aNil))) (aCons (eP dMul (aCons (eC (.int 7919)) (aCons (eVar 6) aNil))) aNil))) (aCons (eP dMul (aCons (eVar 6) (aCons (eVar 6) aNil))) aNil))) (aCons (eC (.int 1)) aNil))) (aCons (eC (.int 48271)) aNil))) (aCons (eC (.int 2147483647)) aNil))))
  (sSeq (sSet 8 (eP dMod (aCons (eP dMul (aCons (eP dAdd (aCons (eVar 7) (aCons (eP dMul (aCons (eC (.int 31)) (aCons (eVar 6) aNil))) aNil))) (aCons (eC (.int 69621)) aNil))) (aCons (eC (.int 998244353)) aNil))))
  (sMut dPush 4 (eP dMod (aCons (eP dAdd (aCons (eP dMul (aCons (eVar 7) (aCons (eVar 8) aNil))) (aCons (eP dDiv (aCons (eVar 7) (aCons (eC (.int 7)) aNil))) aNil))) (aCons (eVar 2) aNil))))))))
  (sRet (eVar 4)))))))
def f__law_row : List D → Option Res := fnSem 9 [.flat, .flat, .flat] m__law_row

/-! ### numbers, sums -/
def Bn (n : Nat) (x : Int) : Prop := x.natAbs < 2 ^ n
theorem Bn.mono {n m : Nat} {x : Int} (h : Bn n x) (hm : n ≤ m) : Bn m x := Nat.lt_of_lt_of_le h (Nat.pow_le_pow_right (by decide) hm)
theorem Bn.zero {n : Nat} : Bn n 0 := Nat.two_pow_pos n
theorem Bn.add {n : Nat} {x y : Int} (h : Bn n x) (h' : Bn n y) : Bn (n + 1) (x + y) := by
  unfold Bn at *
  rw [Nat.pow_succ]
  omega
theorem Bn.neg {n : Nat} {x : Int} (h : Bn n x) : Bn n (-x) := by unfold Bn at *; omega
theorem Bn.mul {n m : Nat} {x y : Int} (h : Bn n x) (h' : Bn m y) : Bn (n + m) (x * y) := by
  unfold Bn at *
  rw [Int.natAbs_mul, Nat.pow_add]
  exact Nat.mul_lt_mul'' h h'
theorem Bn.cmul {n m : Nat} {x y : Int} (h : Bn n x) (h' : Bn m y) (hs : n + m ≤ 134217728) : CMulX x y := mulx_ok h h' hs

/-! ### tables as trees -/
def rowD (w : Nat) (r : Nat → Int) : D := .lst ((List.range w).map fun j => .int (r j))
def encT (h w : Nat) (f : Nat → Nat → Int) : D := .tup [.int h, .int w, .lst ((List.range h).map fun i => rowD w (f i))]
theorem rowD_congr {w : Nat} {r s : Nat → Int} (h : ∀ j, j < w → r j = s j) : rowD w r = rowD w s := by
  unfold rowD
  congr 1
  apply List.map_congr_left
  intro j hj
  rw [h j (List.mem_range.mp hj)]
theorem toPL_map {α : Type} (x : α → D) : ∀ l : List α, D.toPL (l.map x) = l.map fun a => (x a).toP
  | [] => by simp [D.toPL]
  | a :: r => by simp [D.toPL, toPL_map x r]
theorem canLayAll_map {α : Type} (x : α → PyData) : ∀ l : List α, (∀ a ∈ l, (x a).canLay0 = true) → PyData.canLayAll0 (l.map x) = true
  | [], _ => by simp [PyData.canLayAll0]
  | a :: r, h => by
    simp only [List.map_cons, PyData.canLayAll0, Bool.and_eq_true]
    exact ⟨h a List.mem_cons_self, canLayAll_map x r fun b hb => h b (List.mem_cons_of_mem _ hb)⟩
theorem depthAll_map {α : Type} (x : α → PyData) (n : Nat) : ∀ l : List α, (∀ a ∈ l, (x a).depth ≤ n) → PyData.depthAll (l.map x) ≤ n
  | [], _ => by simp [PyData.depthAll]
  | a :: r, h => by
    simp only [List.map_cons, PyData.depthAll]
    exact Nat.max_le.mpr ⟨h a List.mem_cons_self, depthAll_map x n r fun b hb => h b (List.mem_cons_of_mem _ hb)⟩
/-- a tree that the look at == takes -/
def Ok (n : Nat) (d : D) : Prop := d.toP.canLay0 = true ∧ d.toP.depth ≤ n
theorem Ok.shd {n : Nat} {d : D} (h : Ok n d) (hn : n ≤ 64) : d.shd = true := by
  unfold D.shd SeqAt.shaped
  rw [Bool.and_eq_true]
  exact ⟨h.1, decide_eq_true (Nat.le_trans h.2 hn)⟩
theorem Ok.int {k : Int} : Ok 0 (.int k) := ⟨by simp [D.toP, PyData.canLay0], by simp [D.toP, PyData.depth]⟩
theorem Ok.lst {α : Type} {n : Nat} {x : α → D} {l : List α} (h : ∀ a ∈ l, Ok n (x a)) : Ok (n + 1) (.lst (l.map x)) := by
  refine ⟨?_, ?_⟩
  · simp only [D.toP, PyData.canLay0, toPL_map]
    exact canLayAll_map _ l fun a ha => (h a ha).1
  · simp only [D.toP, PyData.depth, toPL_map]
    exact Nat.succ_le_succ (depthAll_map _ n l fun a ha => (h a ha).2)
@[simp] theorem dEq_int {a b : Int} : dEq [.int a, .int b] = some (.bl (a == b)) := by
  unfold dEq
  dsimp only
  rw [Ok.int.shd (by decide), Ok.int.shd (by decide)]
  simp [D.eqv, D.toP, PyData.eqv]
@[simp] theorem dNe_int {a b : Int} : dNe [.int a, .int b] = some (.bl (a != b)) := by
  unfold dNe
  dsimp only
  rw [Ok.int.shd (by decide), Ok.int.shd (by decide)]
  simp [D.eqv, D.toP, PyData.eqv, bne]

/-! ### the shared functions -/
theorem cell_ok (ns : List Int) (k : Nat) : f__law_cell_at [.scr (ns.map D.int), .int k] = some (.ret (.int (ns.getD k 0))) := by
  unfold f__law_cell_at
  rw [fn_s (by simp)]
  simp only [m__law_cell_at]
  by_cases h : k < ns.length
  · simp [sIf_s, h, atI_n]
  · simp [sIf_s, h]
end VP

/-! ## VTab2 -/
namespace VP
open PySem PySem.Spec PyProof.Rows L2 VV
theorem cm {x y : Int} (hx : x.natAbs < 2 ^ 63) (hy : y.natAbs < 2 ^ 63) : CMulX x y := Bn.cmul (n := 63) (m := 63) hx hy (by decide)
theorem cdv {x : Int} {n : Int} (h : 0 < n) (h2 : n.natAbs < 2 ^ 60) : CDivW x n := ⟨h, by
  have : n.natAbs.log2 < 60 := (Nat.log2_lt (by omega)).mpr h2
  omega⟩
theorem row_ok (cell : Int) (many base : Nat) (hm : many ≤ 1000000) (hb : 0 < base) (hb2 : base < 2 ^ 60) :
    ∃ r : List Int, f__law_row [.int cell, .int many, .int base] = some (.ret (.lst (r.map D.int))) ∧ r.length = many ∧ ∀ x ∈ r, 0 ≤ x ∧ x < base := by
  unfold f__law_row
  rw [fn_s (by simp)]
  have e0 : [D.int cell, .int many, .int base] ++ List.replicate (9 - [D.int cell, .int many, .int base].length) .non = [.int cell, .int many, .int base, .non, .non, .non, .non, .non, .non] := rfl
  rw [e0]
  have hcb : ∀ y : Int, dDiv [.int y, .int base] = some (.int (y / base)) := fun y => dDiv_s (cdv (by omega) (by omega))
  obtain ⟨ρ1, l1, R1⟩ := forL_inv (t := gN 6) (b := sSet 5 (eP dDiv (aCons (eVar 5) (aCons (eVar 2) aNil)))) (fun i : Nat => D.int i) (List.range many)
    (fun _ ρ => ∃ (y : Int) (k : D), ρ = [.int cell, .int many, .int base, .int (cell / 2), .lst [], .int y, k, .non, .non])
    [.int cell, .int many, .int base, .int (cell / 2), .lst [], .int (cell / 2), .non, .non, .non] ⟨_, _, rfl⟩
    (fun i a ρ ha hR => by
      obtain ⟨y, k, rfl⟩ := hR
      refine ⟨_, _, rfl, Or.inl ?_, ⟨y / base, .int a, rfl⟩⟩
      simp [hcb])
  obtain ⟨y1, k1, rfl⟩ := R1
  obtain ⟨ρ2, l2, R2⟩ := forL_inv (t := gN 6) (b := (sIf (tOf (eP dGt (aCons (eVar 5) (aCons (eC (.int 0)) aNil))))
  (sSeq (sMut dPush 4 (eP dMod (aCons (eVar 3) (aCons (eVar 2) aNil))))
  (sSet 3 (eP dDiv (aCons (eVar 3) (aCons (eVar 2) aNil)))))
  (sSeq (sSet 7 (eP dMod (aCons (eP dMul (aCons (eP dAdd (aCons (eP dAdd (aCons (eP dAdd (aCons (eP dMod (aCons (eVar 3) (aCons (eC (.int 2147483629)) aNil))) (aCons (eP dMul (aCons (eC (.int 7919)) (aCons (eVar 6) aNil))) aNil))) (aCons (eP dMul (aCons (eVar 6) (aCons (eVar 6) aNil))) aNil))) (aCons (eC (.int 1)) aNil))) (aCons (eC (.int 48271)) aNil))) (aCons (eC (.int 2147483647)) aNil))))
  (sSeq (sSet 8 (eP dMod (aCons (eP dMul (aCons (eP dAdd (aCons (eVar 7) (aCons (eP dMul (aCons (eC (.int 31)) (aCons (eVar 6) aNil))) aNil))) (aCons (eC (.int 69621)) aNil))) (aCons (eC (.int 998244353)) aNil))))
  (sMut dPush 4 (eP dMod (aCons (eP dAdd (aCons (eP dMul (aCons (eVar 7) (aCons (eVar 8) aNil))) (aCons (eP dDiv (aCons (eVar 7) (aCons (eC (.int 7)) aNil))) aNil))) (aCons (eVar 2) aNil)))))))) (fun i : Nat => D.int i) (List.range many)
    (fun n ρ => ∃ (z y : Int) (k a b : D) (r : List Int), ρ = [.int cell, .int many, .int base, .int z, .lst (r.map D.int), .int y, k, a, b] ∧ r.length = n ∧ ∀ x ∈ r, 0 ≤ x ∧ x < base)
    [.int cell, .int many, .int base, .int (cell / 2), .lst [], .int y1, k1, .non, .non] ⟨_, _, _, _, _, [], rfl, rfl, fun _ h => nomatch h⟩
    (fun i a ρ ha hR => by
      obtain ⟨z, y, k, a1, b1, r, rfl, hl, hr⟩ := hR
      have hi : i < many := by
        have := (List.getElem?_eq_some_iff.mp ha).1
        simpa using this
      have hai : a = i := by
        have h2 := (List.getElem?_eq_some_iff.mp ha).2
        simpa using h2.symm
      subst hai
      have hlen : r.length < 1000000 := by omega
      have hpush : ∀ d : D, dPush (.lst (r.map D.int)) d = some (.lst (r.map D.int ++ [d])) := fun d => dPush_s (by simpa using hlen)
      have hmod : ∀ x : Int, 0 ≤ x % base ∧ x % base < base := fun x => ⟨Int.emod_nonneg _ (by omega), Int.emod_lt_of_pos _ (by omega)⟩
      have hmb : ∀ x : Int, dMod [.int x, .int base] = some (.int (x % base)) := fun x => dMod_s (by omega)
      by_cases hy : 0 < y
      · refine ⟨_, [.int cell, .int many, .int base, .int (z / base), .lst ((r ++ [z % base]).map D.int), .int y, .int a, a1, b1], rfl, Or.inl ?_, ⟨_, _, _, _, _, _, rfl, by simp [hl], ?_⟩⟩
        · simp [sIf_s, hy, hmb, hpush, hcb]
        · intro x hx
          rcases List.mem_append.mp hx with h | h
          · exact hr x h
          · rw [List.mem_singleton.mp h]; exact hmod _
      · have hii : ((a : Int) * a) ≤ 1000000000000 ∧ 0 ≤ (a : Int) * a := by
          have h1 : a * a ≤ 1000000 * 1000000 := Nat.mul_le_mul (by omega) (by omega)
          omega
        have hz := Int.emod_lt_of_pos z (b := 2147483629) (by decide)
        have hz0 := Int.emod_nonneg z (b := 2147483629) (by decide)
        have h1 : dMul [.int 7919, .int (a : Int)] = some (.int (7919 * a)) := dMul_s (cm (by decide) (by omega))
        have h2 : dMul [.int (a : Int), .int (a : Int)] = some (.int (a * a)) := dMul_s (cm (by omega) (by omega))
        obtain ⟨u, hu⟩ : ∃ u : Int, u = z % 2147483629 + 7919 * a + a * a + 1 := ⟨_, rfl⟩
        have h3 : dMul [.int u, .int 48271] = some (.int (u * 48271)) := dMul_s (cm (by omega) (by decide))
        obtain ⟨v, hv⟩ : ∃ v : Int, v = u * 48271 % 2147483647 := ⟨_, rfl⟩
        have hv1 := Int.emod_lt_of_pos (u * 48271) (b := 2147483647) (by decide)
        have hv0 := Int.emod_nonneg (u * 48271) (b := 2147483647) (by decide)
        have h4 : dMul [.int 31, .int (a : Int)] = some (.int (31 * a)) := dMul_s (cm (by decide) (by omega))
        have h5 : dMul [.int (v + 31 * a), .int 69621] = some (.int ((v + 31 * a) * 69621)) := dMul_s (cm (by omega) (by decide))
        obtain ⟨w, hw⟩ : ∃ w : Int, w = (v + 31 * a) * 69621 % 998244353 := ⟨_, rfl⟩
        have hw1 := Int.emod_lt_of_pos ((v + 31 * a) * 69621) (b := 998244353) (by decide)
        have hw0 := Int.emod_nonneg ((v + 31 * a) * 69621) (b := 998244353) (by decide)
        have h6 : dMul [.int v, .int w] = some (.int (v * w)) := dMul_s (cm (by omega) (by omega))
        have h7 : dDiv [.int v, .int 7] = some (.int (v / 7)) := dDiv_s (cdv (by decide) (by decide))
        refine ⟨_, [.int cell, .int many, .int base, .int z, .lst ((r ++ [(v * w + v / 7) % base]).map D.int), .int y, .int a, .int v, .int w], rfl, Or.inl ?_, ⟨_, _, _, _, _, _, rfl, by simp [hl], ?_⟩⟩
        · simp [sIf_s, hy, h1, h2, ← hu, h3, ← hv, h4, h5, ← hw, h6, h7, hmb, hpush]
        · intro x hx
          rcases List.mem_append.mp hx with h | h
          · exact hr x h
          · rw [List.mem_singleton.mp h]; exact hmod _)
  obtain ⟨z, y, k, a, b, r, rfl, hl, hr⟩ := R2
  refine ⟨r, ?_, by simpa using hl, hr⟩
  have h2 : dDiv [.int cell, .int 2] = some (.int (cell / 2)) := dDiv_s (cdv (by decide) (by decide))
  have hit : ∀ ρ : List D, ρ[1]? = some (.int many) → iRng (aCons (eVar 1) aNil) ρ = some ((List.range many).map fun i : Nat => D.int i) := fun ρ h => by
    rw [iRng1_s (k := many) (by simp [h]) (by omega) (by omega), rng0]
    simp
  simp [m__law_row, h2, hit, l1, l2]
end VP

/-! ## VTab3 -/
namespace VP
open PySem PySem.Spec PyProof.Rows L2 VV
theorem enc2 {h w : Nat} {f : Nat → Nat → Int} : dIdx [encT h w f, .int 2] = some (.lst ((List.range h).map fun i => rowD w (f i))) := by unfold encT; simp
/-- a range made of numbers from nought, at place i of the frame, and what is made of it -/
theorem lcR {n i : Nat} {e : Ev} {ρ : List D} (y : Nat → D) (h : ∀ a, a < n → e (ρ.set i (.int (a : Nat))) = some (y a)) :
    lcL (gN i) cYes e ρ ((List.range n).map fun i : Nat => D.int i) = some ((List.range n).map y) :=
  lcL_map (fun i : Nat => D.int i) y _ fun a ha => ⟨_, gN_s, cYes_s, h a (List.mem_range.mp ha)⟩
theorem iR {n : Nat} {e : Ev} {ρ : List D} (h : e ρ = some (.int n)) (hn : n ≤ 1000000) : iRng (aCons e aNil) ρ = some ((List.range n).map fun i : Nat => D.int i) := by
  rw [iRng1_s (k := n) (by simp [h]) (by omega) (by omega), rng0]
  simp
theorem unit_ok (n : Nat) (hn : n ≤ 1000000) : f_unit [.int n] = some (.ret (encT n n fun i j => if i = j then 1 else 0)) := by
  unfold f_unit
  rw [fn_s (by simp)]
  simp only [m_unit, sRet_s, eTup_s, aCons_s, eVar_s, eLc_s]
  have e0 : [D.int n] ++ List.replicate (3 - [D.int n].length) .non = [.int n, .non, .non] := rfl
  rw [e0, iR (n := n) rfl hn]
  have e := lcR (n := n) (i := 1) (ρ := [.int n, .non, .non]) (e := eLc (iRng (aCons (eVar 0) aNil)) (gN 2) cYes (eP dIntC (aCons (eP dEq (aCons (eVar 1) (aCons (eVar 2) aNil))) aNil))) (fun i => rowD n fun j => if i = j then 1 else 0) fun a ha => by
    have e := lcR (n := n) (i := 2) (ρ := [.int n, .int a, .non]) (e := eP dIntC (aCons (eP dEq (aCons (eVar 1) (aCons (eVar 2) aNil))) aNil)) (fun j => .int (if a = j then 1 else 0)) fun b hb => by
      by_cases h : a = b
      · subst h; simp
      · have : ¬ ((a : Int) = b) := by omega
        simp [h, this]
    simp only [eLc_s, List.set_cons_succ, List.set_cons_zero]
    rw [iR (n := n) rfl hn, ob_some, e]
    rfl
  rw [ob_some, e]
  simp [encT]
end VP

/-! ## VTab4 -/
namespace VP
open PySem PySem.Spec PyProof.Rows L2 VV
end VP

/-! ## VTab5 -/
namespace VP
open PySem PySem.Spec PyProof.Rows L2 VV
end VP

/-! ## VExc -/
namespace VV
open PySem PySem.Spec PyProof.Rows L2

/-! ### own exception classes -/
/-- a class over ValueError, without an __init__ of its own -/
structure ExF (K : PySem.W.Frag) (C : Addr) : Prop where
  q : PySem.W.excIn K C He.veBase "ValueError.__new__" = true
  kp : PySem.W.keepIn K (.ref C) = true
  sb : PySem.W.subIn K (.ref C) (.type "BaseException") = some true
  tp : PySem.W.typeIn K (.ref C) = some (.type "type")
def sRaise (c : Str) : Sv := fun ρ => some (.ex c ρ)
section
variable {X : Cx} {W : L2.WX} {sc : Sc} {Γ Γ' : List Kd} {pos : Pos}
end

/-! ### defs that may raise -/
section
variable {P : Program} {w : World} {K : PySem.W.Frag} {mg : Str → Option Value} {base : Heap} {x qual : Str} {params : Arguments} {body : List Stmt} {scope : Scope} {f : Addr} {fd : FuncData}
end

/-! ### expressions that may raise, as a statement's own -/
section
variable {X : Cx} {W : L2.WX} {LL : List Nat} {Γ : List Kd} {pos p : Pos} {k : Nat} {ps : List Str} {sem : List D → Option Res} {R : Rm} {x : Str}
end

/-! ### statements of such expressions -/
section
variable {X : Cx} {W : L2.WX} {sc : Sc} {Γ Γ' : List Kd} {pos : Pos}
end
end VV

/-! ## VExc2 -/
namespace VV
open PySem PySem.Spec PyProof.Rows L2

/-! ### the program's exception classes -/
def six : List Str := ["NoTable", "NoPlace", "NoMove", "NoWord", "NoText", "TooMany"]
/-- whether an exception of the class c is one of the class y -/
def subX (c y : Str) : Option Bool := if y = c ∨ y = "CordError" ∨ y = "ValueError" then some true else if y ∈ six then some false else none
structure ExW (K : PySem.W.Frag) (mg : Str → Option Value) (L : List Str) : Prop where
  i : ∀ c C, c ∈ L → mg c = some (.ref C) → ExcC K C
  k : ∀ c C y u b, c ∈ L → mg c = some (.ref C) → subX c y = some b → (mg y = some u ∨ (mg y = none ∧ bootBuiltins y = some u)) → PySem.W.kitOne K (.ref C) u = some b
  m : ∀ c C y D b, c ∈ L → mg c = some (.ref C) → subX c y = some b → mg y = some (.ref D) → PySem.W.exmOne K (.ref C) (.ref D) = some b

/-! ### isinstance(e, X), isinstance(e, (X, ..)) of the exception that is handled -/

section
variable {X : Cx} {L : List Str} {LL : List Nat} {Γ : List Kd} {a : Addr} {oe : Obj} {c : Str} {C : Addr} {pos p q tp : Pos}
end
end VV

/-! ## VExc3 -/
namespace VV
open PySem PySem.Spec PyProof.Rows L2

/-! ### try: .. except Y as e: .. , what is caught is answered -/
section
variable {X : Cx} {W : L2.WX} {sc : Sc} {Γ Γ' : List Kd} {pos pos' np : Pos} {L : List Str}
end

/-! ### defs of an exception, asked in a suite -/
section
variable {P : Program} {w : World} {K : PySem.W.Frag} {mg : Str → Option Value} {base : Heap} {x qual px : Str} {params : Arguments} {body : List Stmt} {scope : Scope} {f : Addr} {fd : FuncData} {L : List Str}
end
section
variable {X : Cx} {L : List Str} {LL : List Nat} {Γ : List Kd} {a : Addr} {oe : Obj} {c : Str} {C : Addr} {pos p tp : Pos}
end

end VV

/-! ## VHead -/
namespace VV
open PySem PySem.Spec PyProof.Rows L2 He

/-! ### a head with exception classes -/
section
variable {K : PySem.W.Frag} {h : Heap} {mg : Str → Option Value} {L : List Str}
end
/-! ### the Hook, with a further look at the written part -/
def obsV (ck : PySem.W.Frag → Bool) (fa : List Fa) (fn : List DefD) (K : PySem.W.Frag) : AlD := ((obsD fa fn K).1 && ck K, (obsD fa fn K).2)
def SaysV (ck : PySem.W.Frag → Bool) (fa : List Fa) (fn : List DefD) (K : PySem.W.Frag) : Prop := obsV ck fa fn K = valD fn
theorem SaysV.d {ck : PySem.W.Frag → Bool} {fa : List Fa} {fn : List DefD} {K : PySem.W.Frag} (c : SaysV ck fa fn K) : SaysD fa fn K ∧ ck K = true := by
  unfold SaysV obsV valD at c
  have c1 := congrArg Prod.fst c
  have c2 := congrArg Prod.snd c
  dsimp only at c1 c2
  rw [Bool.and_eq_true] at c1
  exact ⟨Prod.ext c1.1 c2, c1.2⟩
end VV

/-! ## VMore -/
namespace VV
open PySem PySem.Spec PyProof.Rows L2

/-! ### x in xs, xs a list or a tuple of data -/
section
variable {X : Cx}
end
section
variable {X : Cx} {LL : List Nat} {Γ : List Kd} {pos : Pos} {a b : Expr} {sa sb : Ev} {ma mb : Md}
end

/-! ### list(range(n)) -/
section
variable {X : Cx} {LL : List Nat} {Γ : List Kd} {pos p p2 q : Pos} {a b : Expr} {sa sb : Ev} {ma mb : Md}
end

/-! ### sorted(xs), xs a list of data -/
section
variable {X : Cx} {LL : List Nat} {Γ : List Kd} {pos p : Pos} {a : Expr} {sa : Ev} {ma : Md}
end
end VV

/-! ## VSet -/
/-! set(xs) of a list of whole numbers: its members, its order -/
namespace VV
open PySem PySem.Spec PyProof.Rows L2
section
variable {P : Program} {w : World} {A : Around} {E : Value → Shared → Prop} {s : Shared}
end

/-! ### sorted, without the same twice -/
section
variable {X : Cx}
end
section
variable {X : Cx} {LL : List Nat} {Γ : List Kd} {pos p p2 q : Pos} {a : Expr} {sa : Ev} {ma : Md}
end
end VV

/-! ## VMut2 -/
/-! more changes of one object: extend, pop within append, two stores, d.setdefault(k, []).append(v); sorted(d), t * n -/
namespace VV
open PySem PySem.Spec PyProof.Rows L2


/-! ### x.extend(a list of flat things) -/
section
variable {X : Cx} {W : L2.WX} {sc : Sc} {Γ : List Kd} {pos : Pos}

/-! ### x.append(y.pop(e)), of flat things -/

/-! ### x[a], y[b] = a pair of flat things -/

/-! ### t * n, sorted(d) -/
end
section
variable {X : Cx} {LL : List Nat} {Γ : List Kd} {pos p : Pos} {a b : Expr} {sa sb : Ev} {ma mb : Md}
end
end VV

/-! ## VMul -/
/-! t * n of a tuple of flat things, n from 0 on -/
namespace VV
open PySem PySem.Spec PyProof.Rows L2
section
variable {X : Cx}
variable {LL : List Nat} {Γ : List Kd} {pos p : Pos} {a b : Expr} {sa sb : Ev} {ma mb : Md}
end
end VV

/-! ## VSetApp -/
/-! d.setdefault(k, []).append(v), v flat -/
namespace VV
open PySem PySem.Spec PyProof.Rows L2
section
variable {mg : Mg} {P : Fm} {g : Addr → Nat} {H : Hp}
theorem Cells.weak : ∀ {Γ Γ' : List Kd} {ρ : List D} {σ : L2.St}, Cells mg P g H Γ ρ σ → Γ'.length = Γ.length → (∀ j : Nat, Γ'[j]? = Γ[j]? ∨ Γ'[j]? = some Kd.dead) → Cells mg P g H Γ' ρ σ
  | [], [], [], [], _, _, _ => trivial
  | k :: Γ, k' :: Γ', _ :: _, _ :: _, h, hl, hw => by
    refine ⟨?_, Cells.weak h.2 (by simpa using hl) fun j => by simpa using hw (j + 1)⟩
    rcases hw 0 with e | e
    · simp at e; subst e; exact h.1
    · simp at e; subst e; trivial
  | [], _ :: _, _, _, _, hl, _ => by simp at hl
  | _ :: _, [], _, _, _, hl, _ => by simp at hl
  | [], [], _ :: _, _, h, _, _ => h.elim
  | [], [], [], _ :: _, h, _, _ => h.elim
  | _ :: _, _ :: _, [], _, h, _, _ => h.elim
  | _ :: _, _ :: _, _ :: _, [], h, _, _ => h.elim
end
section
variable {X : Cx} {W : L2.WX} {sc : Sc} {Γ : List Kd} {pos : Pos}
end
end VV

/-! ## VLenD -/
/-! len of a dict with keys that are ints or texts -/
namespace VV
open PySem PySem.Spec PyProof.Rows L2
section
variable {X : Cx}
end
end VV

/-! ## VZip -/
/-! zip(a list, a tuple of flat things) -/
namespace VV
open PySem PySem.Spec PyProof.Rows L2
section
variable {X : Cx} {LL : List Nat} {Γ : List Kd} {pos p tpos : Pos} {a b : Expr} {sa sb : Ev} {ma : Md} {elts : List Expr} {kk : Nat}
end
end VV

/-! ## VDVals -/
/-! [d[k] for k in sorted(d)]: the values of a dict, each once -/
namespace VV
open PySem PySem.Spec PyProof.Rows L2
/-- key, tree, value, nodes -/
structure Row where
  k : Int
  d : D
  v : V
  f : List Addr
section
variable {mg : Mg} {H : Hp}
end
section
variable {X : Cx} {LL : List Nat} {Γ Γ1 : List Kd} {pos p : Pos}
end
end VV

/-! ## VEach -/
/-! for x in l: x.append(c) (lists that are unlike objects); l[i].clear() -/
namespace VV
open PySem PySem.Spec PyProof.Rows L2
section
variable {mg : Mg} {H : Hp}
/-- the list that stands at a place, changed -/
theorem repL_inner : ∀ {rows : List D} {vs : List V} {f : List Addr} {t : Nat} {r : List D}, RepL mg H rows vs f → rows[t]? = some (.lst r) → f.Nodup →
    ∃ b us fr, vs[t]? = some (.ref b) ∧ H b = some (.lst us) ∧ RepL mg H r us fr ∧ b ∈ f ∧ b ∉ fr ∧ ∀ us' r' fr', fr'.Sublist fr → RepL mg (upd H b (.lst us')) r' us' fr' → ∃ f', f'.Sublist f ∧ RepL mg (upd H b (.lst us')) (rows.set t (.lst r')) vs f'
  | [], _, _, _, _, _, e, _ => by simp at e
  | d0 :: rows, _, _, 0, r, h, e, hf => by
    simp only [RepL] at h
    obtain ⟨v, r0, f1, f2, rfl, h1, h2, rfl⟩ := h
    simp at e; subst e
    obtain ⟨nf1, nf2, dj⟩ := List.nodup_append.mp hf
    simp only [Rep] at h1
    obtain ⟨b, us, fr, rfl, hb, rr, rfl⟩ := h1
    obtain ⟨hbf, nfr⟩ := List.nodup_cons.mp nf1
    have hb2 : b ∉ f2 := fun hm => dj b List.mem_cons_self b hm rfl
    refine ⟨b, us, fr, rfl, hb, rr, List.mem_append_left _ List.mem_cons_self, hbf, fun us' r' fr' hs rr' => ⟨(b :: fr') ++ f2, (hs.cons₂ b).append (List.Sublist.refl _), ?_⟩⟩
    simp only [List.set_cons_zero, RepL]
    refine ⟨.ref b, r0, b :: fr', f2, rfl, ?_, repL_upd h2 hb2 hb trivial, rfl⟩
    simp only [Rep]
    exact ⟨b, us', fr', rfl, upd_same, rr', rfl⟩
  | d0 :: rows, _, _, t + 1, r, h, e, hf => by
    simp only [RepL] at h
    obtain ⟨v, r0, f1, f2, rfl, h1, h2, rfl⟩ := h
    obtain ⟨nf1, nf2, dj⟩ := List.nodup_append.mp hf
    obtain ⟨b, us, fr, e1, hb, rr, hm, hbf, hh⟩ := repL_inner (t := t) h2 (by simpa using e) nf2
    have hb1 : b ∉ f1 := fun hm1 => dj b hm1 b hm rfl
    refine ⟨b, us, fr, by simpa using e1, hb, rr, List.mem_append_right _ hm, hbf, fun us' r' fr' hs rr' => ?_⟩
    obtain ⟨f', s', k⟩ := hh us' r' fr' hs rr'
    refine ⟨f1 ++ f', (List.Sublist.refl _).append s', ?_⟩
    simp only [List.set_cons_succ, RepL]
    exact ⟨v, r0, f1, f', rfl, rep_upd h1 hb1 hb trivial, k, rfl⟩
end
section
variable {X : Cx} {W : L2.WX} {sc : Sc} {Γ : List Kd} {pos : Pos}
end
end VV

/-! ## VAnyH -/
/-! any(list) while an exception is handled -/
namespace VV
open PySem PySem.Spec PyProof.Rows L2 HotX
section
variable {prog : Program} {w : World} {A : Around} {E : Value → Shared → Prop} {s : Shared}
end
section
variable {X : Cx}
end
end VV

/-! ## VCompK -/
/-! [e for k in d if c], d the dict in a slot -/
namespace VV
open PySem PySem.Spec PyProof.Rows L2
section
variable {X : Cx} {LL : List Nat} {Γ Γ1 : List Kd} {pos : Pos}
end
end VV

/-! ## VBits -/
/-! 1 << n, n >> k, n & 1; a list extended by a tuple; a number's name in the module -/
namespace VV
open PySem PySem.Spec PyProof.Rows L2
def CNn (_ j : Int) : Prop := 0 ≤ j
instance : DecidableRel CNn := fun _ j => inferInstanceAs (Decidable (0 ≤ j))
section
variable {X : Cx} {LL : List Nat} {Γ : List Kd} {pos : Pos} {a b : Expr} {sa sb : Ev} {ma mb : Md}
end
/-! ### x.extend(t) -/

section
variable {X : Cx} {W : L2.WX} {sc : Sc} {Γ : List Kd} {pos : Pos}
end
end VV

/-! ## VSumT -/
/-! sum(tuple of whole numbers) -/
namespace VV
open PySem PySem.Spec PyProof.Rows L2
section
variable {prog : Program} {w : World} {A : Around} {E : Value → Shared → Prop} {s : Shared} {l : Addr} {its : List Value} {ns : List Int} {Q : Value → Shared → Prop}
end
section
variable {X : Cx}
end
end VV

/-! ## VText -/
/-! texts: str(whole number), text + text, sep.join(list of texts) -/
namespace VV
open PySem PySem.Spec PyProof.Rows L2
section
variable {X : Cx} {LL : List Nat} {Γ : List Kd} {pos apos : Pos} {a b : Expr} {sa sb : Ev} {ma mb : Md}
end
end VV

/-! ## VSortT -/
/-! sorted(a dict whose keys are tuples of whole numbers and texts) -/
namespace VV
open PySem PySem.Spec PyProof.Rows L2

section
variable {X : Cx} {LL : List Nat} {Γ : List Kd} {pos p : Pos} {a : Expr} {sa : Ev} {ma : Md}
end
end VV

/-! ## VEqT -/
/-! == of dicts whose keys are tuples; a dict == {} -/
namespace VV
open PySem PySem.Spec PyProof.Rows L2
section
variable {prog : Program} {w : World} {K : Type} [DecidableEq K] {knd : HeapKind prog w K} {A : Around} {E : Value → Shared → Prop} {s : Shared}
end
section
variable {X : Cx} {pins : List (Addr × Obj)} {σ : L2.St} {H : Hp} {s : Shared}
end

/-! ### as trees -/
section
variable {mg : Mg} {H : Hp}
end
section
variable {X : Cx} {LL : List Nat} {Γ : List Kd} {pos : Pos} {a b : Expr} {sa sb : Ev} {ma mb : Md}
end
end VV

/-! ## VKti -/
/-! tuples of whole numbers that are known to the object: made by tuple(list), count, index, len, sum, in, slices, zip -/
namespace VV
open PySem PySem.Spec PyProof.Rows L2
section
variable {X : Cx} {LL : List Nat} {Γ : List Kd} {pos p p2 apos : Pos} {a b e : Expr} {sa sb se : Ev} {ma mb m : Md} {lo hi : Option Expr} {sl sh : List D → Option (Option Int)}
end
end VV

/-! ## VNk -/
/-! dicts whose keys are tuples of whole numbers, truths and such tuples: at the level of tracked heaps -/
namespace VV
open PySem PySem.Spec PyProof.Rows L2
section
variable {X : Cx} {pins : List (Addr × Obj)} {σ : L2.St} {H : Hp} {s : Shared}
variable {A : Around} {E : Value → Shared → Prop} {a b : Addr} {xs : List Ne} {k : NestedKey} {v : V}
/-! ### rules -/
end
section
variable {X : Cx} {o i e value : Expr} {pos pos' : Pos} {td ty tv tx : TE}
end
end VV

/-! ## VNkD -/
/-! dicts of nested keys, as trees -/
namespace VV
open PySem PySem.Spec PyProof.Rows L2
/-- a tuple as a key -/
def D.nkT : D → Option NestedKey
  | .tup l => ((D.nkL l).map NestedKey.tup).filter fun k => decide (k.depth ≤ 8)
  | .kti l => some (.tup (l.map .num))
  | _ => none
section
variable {X : Cx} {LL : List Nat} {Γ : List Kd} {pos apos cpos : Pos} {a b c : Expr} {sa sb s2 : Ev} {ma mb : Md}
end
section
variable {X : Cx} {W : L2.WX} {sc : Sc} {Γ : List Kd} {pos : Pos}
end
end VV

/-! ## VNkF -/
/-! the walk over a dict of nested keys -/
namespace VV
open PySem PySem.Spec PyProof.Rows L2
section
variable {X : Cx} {pins : List (Addr × Obj)} {σ : L2.St} {H : Hp} {s : Shared} {a : Addr} {o : Obj} {xs : List Ne}
end
section
variable {P : Program} {w : World} {K : PySem.W.Frag} {tg : Expr} {a : Addr} {o : Obj} {es : Array DictEntry} {ep : Nat}
end
section
variable {mg : Mg} {P : Fm} {LL : List Nat} {g : Addr → Nat} {H : Hp} {a : Addr} {u : HO} {od : Obj}
end
section
variable {X : Cx} {W : L2.WX} {sc : Sc} {Γ Γ1 : List Kd} {pos : Pos}
end
end VV

/-! ## VPar -/
/-! a, b = x, y: two local names, flat things -/
namespace VV
open PySem PySem.Spec PyProof.Rows L2
def sPar (i j : Nat) (a : List D → Option (List D)) : Sv := fun ρ => match a ρ with
  | some [d, e] => some (.nx ((ρ.set i d).set j e))
  | _ => none
section
variable {X : Cx} {W : L2.WX} {sc : Sc} {Γ : List Kd} {pos : Pos}
theorem sx_par {i j : Nat} {x y : Str} {a b : Expr} {sem : List D → Option (List D)} {px py pt : Pos} {kt k2 pt2} (hc : X.calm = true) (hN : X.N.Nodup) (hi : X.N[i]? = some x) (hj : X.N[j]? = some y)
    (hx : X.env.scope.names.lookup x = some .local) (hy : X.env.scope.names.lookup y = some .local) (ha : EA X sc.LL Γ [a, b] sem .flat) (hij : i ≠ j := by decide)
    (hw : swappedStores [.Tuple [.Name x px, .Name y py] kt pt] (.Tuple [a, b] k2 pt2) X.env = pure (some [x, y]) := by rfl)
    (hs : swapsWithSole [.Tuple [.Name x px, .Name y py] kt pt] (.Tuple [a, b] k2 pt2) pos.line X.env = pure false := by rfl) :
    SX X W sc Γ (.Assign [.Tuple [.Name x px, .Name y py] kt pt] (.Tuple [a, b] k2 pt2) pos) (sPar i j sem) ((Γ.set i .flat).set j .flat) := by
  obtain ⟨_, t, p, k⟩ := ha
  refine ⟨_, ps_par hc hN hi hj hij hx hy p hw hs, fun P g ρ σ H o D s e w => ?_⟩
  unfold sPar at e
  split at e
  · rename_i d1 d2 e1
    cases e
    refine k P g ρ σ H _ _ s e1 fun vs H' xx vl => ?_
    obtain ⟨fp, r, rfl⟩ := vl
    obtain ⟨v, u, f1, f2, rfl, h1, h2, ef⟩ := repL2 r
    have ef := ef.symm
    simp only [List.append_eq_nil_iff] at ef
    obtain ⟨rfl, rfl⟩ := ef
    refine ⟨v, u, rfl, ?_⟩
    have st : Sta X.vm P sc.LL Γ (relab g H H' .non 1 1) ρ σ H' := s.relab xx
    exact w (relab g H H' .non 1 1) _ H' (Step.relab xx) ⟨st.loc, Cells.set (k := .flat) j (Cells.set (k := .flat) i st.cells ⟨v, rfl, h1⟩) ⟨u, rfl, h2⟩⟩
  · cases e
end
end VV

/-! ## VSortB -/
/-! sorted(a dict of whole keys), of any number of keys -/
namespace VV
open PySem PySem.Spec PyProof.Rows L2
section
variable {X : Cx} {LL : List Nat} {Γ : List Kd} {pos p : Pos} {a : Expr} {sa : Ev} {ma : Md}
end
end VV

/-! ## VCompN -/
/-! [e for k in d if c], d the dict of nested keys in a slot -/
namespace VV
open PySem PySem.Spec PyProof.Rows L2
section
variable {X : Cx} {LL : List Nat} {Γ Γ1 : List Kd} {pos : Pos}
end
end VV

/-! ## VCst -/
/-! what is never reached; the module's tuples of texts; l.count(x), l.index(x) of data; l.clear() -/
namespace VV
open PySem PySem.Spec PyProof.Rows L2
/-! ### never reached -/
section
variable {X : Cx} {W : L2.WX} {sc : Sc} {LL : List Nat} {Γ Γ' : List Kd}
end
/-! ### the module's tuples of texts -/
section
variable {X : Cx} {LL : List Nat} {Γ : List Kd} {pos p : Pos} {a : Expr} {sa : Ev} {ma : Md} {x : Str} {L : List Str}
end
/-! ### l.count(x), l.index(x) -/
section
variable {X : Cx}
end
section
variable {X : Cx} {LL : List Nat} {Γ : List Kd} {pos ap : Pos} {a b : Expr} {sa sb : Ev} {ma mb : Md}
end
/-! ### l.clear() -/
section
variable {X : Cx} {W : L2.WX} {sc : Sc} {Γ : List Kd} {pos : Pos}
end
end VV

/-! ### the head, with such tuples -/
namespace VV
open PySem PySem.Spec PyProof.Rows L2 He
section
variable {K : PySem.W.Frag} {h : Heap} {mg : Str → Option Value} {L : List Str} {ts : List (Str × List Str)}
end
end VV

/-! ## VEqN -/
/-! == and != of dicts of nested keys that are alike; slices and sums of known tuples -/
namespace VV
open PySem PySem.Spec PyProof.Rows L2
section
variable {X : Cx} {pins : List (Addr × Obj)} {σ : L2.St} {H : Hp} {s : Shared}
end
section
variable {mg : Mg} {H : Hp}
end
section
variable {X : Cx} {LL : List Nat} {Γ : List Kd} {pos p p2 apos : Pos} {a b e : Expr} {sa sb se : Ev} {ma mb m : Md} {lo hi : Option Expr} {sl sh : List D → Option (Option Int)}
/-! ### a part of a tuple of whole numbers, not the whole: a new object, known -/
/-! ### isinstance of a dict of nested keys -/
end
end VV

/-! ## VKt2 -/
/-! more of known tuples: displays, sums, places -/
namespace VV
open PySem PySem.Spec PyProof.Rows L2
section
variable {X : Cx} {pos : Pos} {es : List Expr} {t : TA}
end
section
variable {X : Cx} {LL : List Nat} {Γ : List Kd} {pos : Pos} {a b : Expr} {sa sb : Ev} {ma mb : Md}
end
end VV

/-! ## VPut2 -/
/-! x[i][j] = e, a flat thing into a list of lists -/
namespace VV
open PySem PySem.Spec PyProof.Rows L2
section
variable {X : Cx} {W : L2.WX} {sc : Sc} {Γ : List Kd} {pos : Pos}
end
end VV

/-! ## VDrop -/
/-! a call as a statement; a list within a tuple gets one thing more, the name is not read again -/
namespace VV
open PySem PySem.Spec PyProof.Rows L2
section
variable {X : Cx} {W : L2.WX} {sc : Sc} {Γ : List Kd} {pos : Pos}
end
end VV

/-! ## VSort1 -/
/-! sorted(list), one thing or none, too -/
namespace VV
open PySem PySem.Spec PyProof.Rows L2
section
variable {X : Cx} {LL : List Nat} {Γ : List Kd} {pos p : Pos} {a : Expr} {sa : Ev} {ma : Md}
end
end VV

/-! ## VLstT -/
/-! list(d) of a dict whose keys are tuples -/
namespace VV
open PySem PySem.Spec PyProof.Rows L2
section
variable {X : Cx} {LL : List Nat} {Γ : List Kd} {pos p : Pos} {a : Expr} {sa : Ev} {ma : Md}
end
end VV

/-! ## VSetT -/
/-! d.setdefault(k, x), k a tuple: at the level of tracked heaps -/
namespace VV
open PySem PySem.Spec PyProof.Rows L2
section
variable {X : Cx} {pins : List (Addr × Obj)} {σ : L2.St} {H : Hp} {s : Shared} {a b : Addr} {r : Value} {d : V} {k : List L2.Key} {A : Around} {E : Value → Shared → Prop}
end
section
variable {X : Cx} {o e f : Expr} {td ty tx : TE} {apos cpos : Pos}
end
end VV

/-! ## VSetAT -/
/-! d.setdefault(k, []).append(flat), k a tuple of whole numbers and texts -/
namespace VV
open PySem PySem.Spec PyProof.Rows L2
section
variable {mg : Mg} {P : Fm} {g : Addr → Nat} {H : Hp}
end
section
variable {X : Cx} {W : L2.WX} {sc : Sc} {Γ : List Kd} {pos : Pos}
end
end VV

/-! ## VStep -/
/-! l[::k] of a list of flat things -/
namespace VV
open PySem PySem.Spec PyProof.Rows L2
theorem filterMap_same {α β : Type} {f g : α → Option β} : ∀ (l : List α), (∀ a ∈ l, f a = g a) → l.filterMap f = l.filterMap g
  | [], _ => rfl
  | a :: r, h => by
    rw [List.filterMap_cons, List.filterMap_cons, h a List.mem_cons_self, filterMap_same r fun b hb => h b (List.mem_cons_of_mem _ hb)]
/-- every k-th thing -/
def pickS {α : Type} (l : List α) (k : Int) : List α := (sliceRange (sliceBounds none none (some k) l.length).1 (sliceBounds none none (some k) l.length).2.1 (sliceBounds none none (some k) l.length).2.2).filterMap (l[·]?)
theorem slicePick_S (items : Array Value) (k : Int) : slicePick items none none (some k) = (pickS items.toList k).toArray := by
  unfold slicePick pickS
  rw [Array.length_toList]
  congr 1
  refine filterMap_same _ fun i _ => ?_
  rw [Array.getElem?_toList]
theorem vals_get : ∀ {xs : List V} {us : List Value}, Vals xs us → ∀ i : Nat, (xs[i]? = none ∧ us[i]? = none) ∨ ∃ x u, xs[i]? = some x ∧ us[i]? = some u ∧ RelV x u := fun h => by
  induction h with
  | nil => intro i; exact .inl ⟨by simp, by simp⟩
  | cons r1 _ ih =>
    intro i
    cases i with
    | zero => exact .inr ⟨_, _, rfl, rfl, r1⟩
    | succ i =>
      rcases ih i with ⟨a, b⟩ | ⟨x, u, a, b, c⟩
      · exact .inl ⟨by simpa using a, by simpa using b⟩
      · exact .inr ⟨x, u, by simpa using a, by simpa using b, c⟩
theorem vals_pick {xs : List V} {us : List Value} (h : Vals xs us) : ∀ l : List Nat, Vals (l.filterMap (xs[·]?)) (l.filterMap (us[·]?))
  | [] => .nil
  | i :: l => by
    rw [List.filterMap_cons, List.filterMap_cons]
    rcases vals_get h i with ⟨a, b⟩ | ⟨x, u, a, b, c⟩
    · rw [a, b]; exact vals_pick h l
    · rw [a, b]; exact .cons c (vals_pick h l)
theorem repL_get {mg : Mg} {H : Hp} : ∀ {ds : List D} {vs : List V}, RepL mg H ds vs [] → ∀ i : Nat, (ds[i]? = none ∧ vs[i]? = none) ∨ ∃ d v, ds[i]? = some d ∧ vs[i]? = some v ∧ Rep mg H d v []
  | [], vs, h, i => by
    simp only [RepL] at h
    rw [h.1]
    exact .inl ⟨by simp, by simp⟩
  | d :: ds, vs, h, i => by
    simp only [RepL] at h
    obtain ⟨v, vs', f1, f2, rfl, h1, h2, e⟩ := h
    obtain ⟨rfl, rfl⟩ := List.append_eq_nil_iff.mp e.symm
    cases i with
    | zero => exact .inr ⟨d, v, rfl, rfl, h1⟩
    | succ i =>
      rcases repL_get h2 i with ⟨a, b⟩ | ⟨x, u, a, b, c⟩
      · exact .inl ⟨by simpa using a, by simpa using b⟩
      · exact .inr ⟨x, u, by simpa using a, by simpa using b, c⟩
theorem repL_pick {mg : Mg} {H : Hp} {ds : List D} {vs : List V} (h : RepL mg H ds vs []) : ∀ l : List Nat, RepL mg H (l.filterMap (ds[·]?)) (l.filterMap (vs[·]?)) []
  | [] => by simp [RepL]
  | i :: l => by
    rw [List.filterMap_cons, List.filterMap_cons]
    rcases repL_get h i with ⟨a, b⟩ | ⟨d, v, a, b, c⟩
    · rw [a, b]; exact repL_pick h l
    · rw [a, b]
      simp only [RepL]
      exact ⟨v, _, [], [], rfl, c, repL_pick h l, rfl⟩
section
variable {X : Cx} {e st : Expr} {te ts : TE} {pos p2 : Pos}
end
section
variable {X : Cx} {LL : List Nat} {Γ : List Kd} {pos p2 : Pos} {a b : Expr} {sa sb : Ev} {ma mb : Md}
end
end VV

/-! ## VForC -/
/-! for x in f(..): the keys of a dict just told (it is locked for good: nobody else has it) -/
namespace VV
open PySem PySem.Spec PyProof.Rows L2
section
variable {X : Cx} {e : Expr} {t : TE}
end
section
variable {X : Cx} {W : L2.WX} {sc : Sc} {Γ Γ1 : List Kd} {pos : Pos}
end
section
variable {X : Cx} {W : L2.WX} {sc : Sc} {Γ Γ1 : List Kd} {pos : Pos}
end
end VV

/-! ## VDClr -/
/-! d.clear(), a dict of whole keys -/
namespace VV
open PySem PySem.Spec PyProof.Rows L2
section
variable {X : Cx} {W : L2.WX} {sc : Sc} {Γ : List Kd} {pos : Pos}
end
end VV

/-! ## VObj -/
/-! instances: an attribute read, a method called -/
namespace VV
open PySem PySem.Spec PyProof.Rows L2
/-- the class of this name, as its text says -/
def ClsF (K : PySem.W.Frag) (mg : Str → Option Value) (c : Str) : Prop := ∃ C, mg c = some (.ref C) ∧ Cls K C
/-- no attribute f of the class itself -/
def NoF (K : PySem.W.Frag) (mg : Str → Option Value) (c f : Str) : Prop := ∃ C, mg c = some (.ref C) ∧ NoAttr K C f
def fldD (f : Str) : List Str → List D → Option D
  | n :: ns, d :: ds => if n = f then some d else fldD f ns ds
  | _, _ => none
def eFld (c f : Str) (s : Ev) : Ev := fun ρ => match s ρ with
  | some (.obj c' ns ds) => if c' = c then fldD f ns ds else none
  | _ => none
theorem fld_rep {mg : Mg} {H : Hp} {f : Str} : ∀ {ns : List Str} {ds : List D} {vs : List V} {fp : List Addr} {d : D}, RepL mg H ds vs fp → ns.length = vs.length → fldD f ns ds = some d →
    ∃ v f1 f' f2, (ns.zip vs).lookup f = some v ∧ Rep mg H d v f' ∧ fp = f1 ++ f' ++ f2
  | n :: ns, d0 :: ds, vs, fp, d, h, hl, e => by
    simp only [RepL] at h
    obtain ⟨v, r, f1, f2, rfl, h1, h2, rfl⟩ := h
    unfold fldD at e
    by_cases c : n = f
    · rw [if_pos c] at e
      cases e
      subst c
      exact ⟨v, [], f1, f2, by simp [List.lookup_cons], h1, by simp⟩
    · rw [if_neg c] at e
      obtain ⟨v', a, b, c', e1, e2, e3⟩ := fld_rep h2 (by simpa using hl) e
      refine ⟨v', f1 ++ a, b, c', ?_, e2, by rw [e3]; simp⟩
      rw [List.zip_cons_cons, List.lookup_cons]
      have : (f == n) = false := by
        rw [beq_eq_false_iff_ne]
        exact fun z => c z.symm
      rw [this]
      exact e1
  | [], _, _, _, _, _, _, e => by cases e
  | _ :: _, [], _, _, _, _, _, e => by cases e
section
variable {X : Cx} {LL : List Nat} {Γ : List Kd} {pos : Pos} {a : Expr} {sa : Ev} {ma : Md}
theorem ex_fld {c f : Str} (hc : ClsF X.K X.mg c) (hf : NoF X.K X.mg c f) (ha : EX X LL Γ a sa ma) (hb : attributeBase a f X.env (eval a X.env) = eval a X.env := by rfl) : EX X LL Γ (.Attribute a f pos) (eFld c f sa) ma.child := by
  obtain ⟨t, pt, k⟩ := ha
  refine ⟨_, pe_fld pt hb, fun P g ρ σ H d Q s e q => ?_⟩
  unfold eFld at e
  split at e
  · rename_i c' ns ds h
    split at e
    · rename_i hcc
      subst hcc
      refine k P g ρ σ H _ _ s h fun v H1 x1 w => ?_
      obtain ⟨fp, r, _⟩ := w.labs
      simp only [Rep] at r
      obtain ⟨p, C, dx, vs, fs, rfl, hC, hl, hp, rl, rfl⟩ := r
      obtain ⟨C1, hC1, cls⟩ := hc
      obtain ⟨C2, hC2, na⟩ := hf
      rw [hC] at hC1 hC2
      cases hC1
      cases hC2
      obtain ⟨v', f1, f', f2, e1, e2, e3⟩ := fld_rep rl hl e
      refine ⟨p, C, dx, _, v', rfl, hp, cls, na, e1, q v' H1 x1 (val_child w fun fp2 r2 => ?_)⟩
      simp only [Rep] at r2
      obtain ⟨p2, C2, dx2, vs2, fs2, ep, _, hl2, hp2, rl2, rfl⟩ := r2
      cases ep
      rw [hp] at hp2
      simp only [Option.some.injEq, HO.ins.injEq] at hp2
      obtain ⟨_, _, ez⟩ := hp2
      obtain ⟨v3, g1, g', g2, y1, y2, y3⟩ := fld_rep rl2 hl2 e
      rw [← ez, e1] at y1
      cases y1
      exact ⟨g1, g', g2, y2, .inl ⟨p, rfl, by rw [y3]⟩⟩
    · cases e
  · cases e
end
/-- a method of a class -/
def CalM (P : Program) (w : World) (K : PySem.W.Frag) (mg : Str → Option Value) (base : Heap) (c m : Str) (k : Nat) (ps : List Str) (sem : List D → Option Res) (R : Rm) : Prop :=
  ∃ f fd C, FnOk P w K mg base CX0 k f fd ps (sp0 ⟨mg, K⟩ sem ps.length R) ∧ mg c = some (.ref C) ∧ Cls K C ∧ Meth K C m f ∧ Binds K fd ps []
def eMeth (c m : Str) (f : List D → Option Res) (so : Ev) (a : List D → Option (List D)) : Ev := fun ρ => match so ρ with
  | some (.obj c' ns ds) => if c' = c ∧ m ∉ ns then (a ρ).bind fun xs => match f (.obj c' ns ds :: xs) with
    | some (.ret d) => some d
    | _ => none
    else none
  | _ => none
theorem lookup_no {m : Str} : ∀ {ns : List Str} {vs : List V}, m ∉ ns → (ns.zip vs).lookup m = none
  | [], _, _ => by simp
  | _ :: _, [], _ => by simp
  | n :: ns, v :: vs, h => by
    rw [List.zip_cons_cons, List.lookup_cons]
    have : (m == n) = false := by
      rw [beq_eq_false_iff_ne]
      exact fun z => h (z ▸ List.mem_cons_self)
    rw [this]
    exact lookup_no fun z => h (List.mem_cons_of_mem _ z)
section
variable {X : Cx} {LL : List Nat} {Γ : List Kd} {pos apos : Pos} {k : Nat} {ps : List Str} {sem : List D → Option Res} {R : Rm} {c m : Str}
theorem ex_meth {o e : Expr} {es : List Expr} {so : Ev} {a : List D → Option (List D)} {mo mm : Md} {pl : Sem Bool} (cm : CalM X.prog X.w X.K X.mg X.base c m k ps sem R) (hr : Room k X.A) (ho : EX X LL Γ o so mo) (ha : EA X LL Γ (e :: es) a mm) (hn : (e :: es).length + 1 = ps.length := by rfl)
    (hR : R = .flat ∨ R = .fresh := by decide)
    (hst : starEach (e :: es) X.env = (false, eval e X.env) :: starEach es X.env := by rfl) (hpl : (backTo pos (starEach es X.env)).any (·.1) = false := by rfl)
    (ht : eval (.Call (.Attribute o m apos) (e :: es) [] pos) X.env = (do
      let ov ← eval o X.env
      standAt apos.atName
      let (f, first) ← holding [ov] (getMethod ov m pl)
      callWith pos f first (backTo pos (starEach (e :: es) X.env)) (backToKw pos (keywordEach [] X.env))) := by rfl) :
    EX X LL Γ (.Call (.Attribute o m apos) (e :: es) [] pos) (eMeth c m sem so a) (R.md .flat) := by
  obtain ⟨f, fd, C, F, hC, hcls, hm, hb⟩ := cm
  obtain ⟨to, po, ko⟩ := ho
  obtain ⟨hl, t, pt, kk⟩ := ha
  refine ⟨_, pe_meth po hcls hm F hr hb .nil pass0 pt hst hpl ht, fun P g ρ σ H d Q s e0 q => ?_⟩
  unfold eMeth at e0
  split at e0
  · rename_i c' ns ds hso
    split at e0
    · rename_i hcm
      obtain ⟨hcc, hmn⟩ := hcm
      subst hcc
      obtain ⟨xs, e1, e2⟩ := bind_some e0
      refine ko P g ρ σ H _ _ s hso fun v H1 x1 w => ?_
      obtain ⟨fp, r, _⟩ := w.labs
      have r0 := r
      simp only [Rep] at r
      obtain ⟨p, C', dx, vs, fs, rfl, hC', hlv, hp, rl, rfl⟩ := r
      rw [hC] at hC'
      cases hC'
      refine ⟨p, dx, _, rfl, hp, lookup_no hmn, ?_⟩
      refine kk P g ρ σ H1 xs _ (s.ext x1) e1 fun ws H2 x2 vl => ?_
      obtain ⟨fq, rq, oq⟩ := vl
      have hlen : (V.ref p :: (ws ++ [])).length = ps.length := by
        rw [List.append_nil, List.length_cons, rq.length, hl ρ xs e1]
        exact hn
      refine ⟨hlen, .obj c' ns ds :: xs, (p :: fs) ++ fq, d, ?_, ?_, fun u H3 x3 rf => q u H3 (x1.trans (x2.trans x3)) ?_⟩
      · rw [List.append_nil]
        simp only [RepL]
        exact ⟨.ref p, ws, p :: fs, fq, rfl, r0.ext x2, rq, rfl⟩
      · split at e2
        · cases e2; assumption
        · cases e2
      · rcases hR with rfl | rfl
        · exact rf
        · obtain ⟨f3, r3, n3, q3⟩ := rf
          refine ⟨f3, r3, fun b hb' => ?_, .of n3⟩
          have hnew : New H H3 b := ((q3 b hb').back x2).back x1
          by_cases hv : u = .ref b
          · exact .inl ⟨hv, hnew⟩
          · exact .inr ⟨.inl hv, .inl ⟨rfl, hnew⟩⟩
    · cases e0
  · cases e0
end
end VV

/-! ## VObjI -/
/-! an instance that is being made: its attributes stored and read -/
namespace VV
open PySem PySem.Spec PyProof.Rows L2
theorem putF_new {f : Str} {y : V} : ∀ {ns : List Str} {vs : List V}, f ∉ ns → ns.length = vs.length → putF f y (ns.zip vs) = (ns ++ [f]).zip (vs ++ [y])
  | [], [], _, _ => rfl
  | n :: ns, v :: vs, h, hl => by
    have hn : n ≠ f := fun e => h (e ▸ List.mem_cons_self)
    rw [List.zip_cons_cons, putF, if_neg hn, putF_new (fun z => h (List.mem_cons_of_mem _ z)) (by simpa using hl)]
    rfl
  | [], _ :: _, _, hl => by simp at hl
  | _ :: _, [], _, hl => by simp at hl
theorem RepS.snoc {R : D → V → List Addr → Prop} {d : D} {v : V} {f : List Addr} (h : R d v f) : ∀ {ds : List D} {vs : List V} {fs : List (List Addr)}, RepS R ds vs fs → RepS R (ds ++ [d]) (vs ++ [v]) (fs ++ [f])
  | [], [], [], _ => ⟨h, trivial⟩
  | _ :: _, _ :: _, _ :: _, k => ⟨k.1, RepS.snoc h k.2⟩
  | [], _ :: _, _, k => k.elim
  | [], [], _ :: _, k => k.elim
  | _ :: _, [], _, k => k.elim
  | _ :: _, _ :: _, [], k => k.elim
theorem FpS.snoc {R : Addr → List Nat → Prop} {f : List Addr} {L : List Nat} (h : ∀ b ∈ f, R b L) : ∀ {fs : List (List Addr)} {Ls : List (List Nat)}, FpS R fs Ls → FpS R (fs ++ [f]) (Ls ++ [L])
  | [], [], _ => ⟨h, trivial⟩
  | _ :: _, _ :: _, k => ⟨k.1, FpS.snoc h k.2⟩
  | [], _ :: _, k => k.elim
  | _ :: _, [], k => k.elim
theorem RepS.at_ {R : D → V → List Addr → Prop} : ∀ {ds : List D} {vs : List V} {fs : List (List Addr)} {j : Nat} {d : D}, RepS R ds vs fs → ds[j]? = some d → ∃ v f, vs[j]? = some v ∧ fs[j]? = some f ∧ R d v f
  | d0 :: _, v :: _, f :: _, 0, d, k, e => by
    cases (by simpa using e : d0 = d)
    exact ⟨v, f, rfl, rfl, k.1⟩
  | _ :: _, _ :: _, _ :: _, j + 1, d, k, e => RepS.at_ (j := j) k.2 (by simpa using e)
  | [], _, _, _, _, _, e => by simp at e
  | _ :: _, [], _, _, _, k, _ => k.elim
  | _ :: _, _ :: _, [], _, _, k, _ => k.elim
/-- the instance in the slot i gets an attribute more -/
def sFld0 (i : Nat) (c f : Str) (se : Ev) : Sv := fun ρ => (se ρ).bind fun d => match ρ[i]? with
  | some (.obj c' ns ds) => if c' = c ∧ f ∉ ns ∧ ns.length < 1000 then some (.nx (ρ.set i (.obj c' (ns ++ [f]) (ds ++ [d])))) else none
  | _ => none
section
variable {X : Cx} {W : L2.WX} {sc : Sc} {Γ : List Kd} {LL : List Nat} {pos : Pos}
theorem sx_fld0 {i : Nat} {x : Str} {px pos' : Pos} {e : Expr} {se : Ev} {fr : Bool} {n : Nat} {Ls : List (List Nat)} {c f : Str} (k : Nat) (hc : ClsF X.K X.mg c) (hf : NoF X.K X.mg c f) (hk : Γ[i]? = some (.ob n Ls)) (hN : X.N[i]? = some x) (hv : Vis X.env.scope x)
    (he : EX X sc.LL Γ e se (.al fr .new [] true)) (hn : n ≠ 0 := by decide) (hk0 : k ≠ 0 := by decide) (hL : n ∉ sc.LL := by decide) (hdb : (x == ("__debug__" : Str)) = false := by decide) (hcd : (x == ("__classdict__" : Str)) = false := by decide)
    (hs : swapsWith e (some (.Attribute (.Name x px) f pos')) pos.line X.env = pure false := by rfl) :
    SX X W sc Γ (.Assign [.Attribute (.Name x px) f pos'] e pos) (sFld0 i c f se) ((killK n Γ).set i (.ob n (Ls ++ [[k]]))) := by
  obtain ⟨t, pt, kk⟩ := he
  refine ⟨_, ps_fld (pe_var hN hv hdb hcd) pt hs, fun P g ρ σ H o De s e w => ?_⟩
  obtain ⟨l', ov, hρ, h2, h3⟩ := s.cells.get hk
  obtain ⟨a, C, dx, c', ns, vs, ds, fps, rfl, rfl, hC, hl, r, ob, rs, fs, nd⟩ := h3
  have hC : X.mg c' = some (.ref C) := hC
  unfold sFld0 at e
  obtain ⟨d, e1, e2⟩ := Option.bind_eq_some_iff.mp e
  clear e
  have e := e2
  clear e2
  rw [hρ] at e
  dsimp only at e
  split at e
  · rename_i hcf
    obtain ⟨hcc, hfn, hlen⟩ := hcf
    subst hcc
    cases e
    refine kk P g ρ σ H d _ s e1 fun y H2 x2 wv => ?_
    have st2 : Sta X.vm P sc.LL Γ (relab g H H2 .non k k) ρ σ H2 := s.relab x2
    have r2 : H2 a = some (.ins C dx (ns.zip vs)) := x2 _ _ r
    obtain ⟨C1, hC1, cls⟩ := hc
    obtain ⟨C2, hC2, na⟩ := hf
    rw [hC] at hC1 hC2
    cases hC1
    cases hC2
    have hlz : (ns.zip vs).length < 1000 := by rw [List.length_zip]; omega
    refine ⟨.ref a, h2, a, C, dx, _, rfl, r2, cls, na, hlz, ?_⟩
    rw [putF_new hfn hl]
    obtain ⟨fp, ry, q, z⟩ := wv
    have hnew : ∀ b ∈ fp, New H H2 b := fun b hb => by
      rcases q b hb with ⟨_, y'⟩ | ⟨_, y' | y'⟩
      · exact y'
      · exact y'.2
      · exact nomatch y'.1
    have ob2 := Old.relab (H' := H2) (v := .non) (n := k) (m := k) ob.1 s.loc
    have hga : relab g H H2 .non k k a = n := List.mem_singleton.mp ob2.1
    have haf : a ∉ fp := fun h => by have := (hnew a h).1; rw [r] at this; cases this
    have hold : ∀ b ∈ fps.flatten, H b ≠ none := fun b hb => by
      obtain ⟨f', hf', hbf⟩ := List.mem_flatten.mp hb
      obtain ⟨L, _, hbL⟩ := fs.mem hf' hbf
      exact hbL.there s.loc
    have hafps : a ∉ fps.flatten := (List.nodup_cons.mp nd).1
    have cell : CellOk X.vm P (relab g H H2 .non k k) (upd H2 a (.ins C dx ((ns ++ [f]).zip (vs ++ [y])))) (.ob n (Ls ++ [[k]])) (.obj c' (ns ++ [f]) (ds ++ [d])) (some (.ref a)) := by
      refine ⟨a, C, dx, c', ns ++ [f], vs ++ [y], ds ++ [d], fps ++ [fp], rfl, rfl, hC, by simp [hl], upd_same, ⟨ob2, ob.2⟩, RepS.snoc (rep_upd ry haf r2 trivial) ((rs.mono fun d v f h => h.ext x2).monoF fun d v f' hf' h => rep_upd h (fun hm => hafps (List.mem_flatten.mpr ⟨f', hf', hm⟩)) r2 trivial), FpS.snoc (fun b hb => ?_) (fs.mono fun b L h => h.relab s.loc), ?_⟩
      · have : relab g H H2 .non k k b = k := by rw [relab_new (hnew b hb)]; split <;> rfl
        exact ⟨by rw [this]; exact List.mem_singleton.mpr rfl, fun z0 => by rw [this] at z0; exact absurd z0 hk0⟩
      · rw [List.flatten_append, List.flatten_cons, List.flatten_nil, List.append_nil]
        refine List.nodup_cons.mpr ⟨fun h => ?_, ?_⟩
        · rcases List.mem_append.mp h with h | h
          · exact hafps h
          · exact haf h
        · rw [List.nodup_append]
          exact ⟨(List.nodup_cons.mp nd).2, z.1 rfl, fun b hb c hc e => hold b hb (by rw [e]; exact (hnew c hc).1)⟩
    obtain ⟨s3, st3⟩ := st2.put (o' := .ins C dx ((ns ++ [f]).zip (vs ++ [y]))) r2 trivial trivial hga hn hL h2 cell
    exact w _ σ _ ((Step.relab x2).trans st3) s3
  · cases e
end
end VV

/-! ## VObjN -/
/-! self.f[k] = v, a dict of nested keys -/
namespace VV
open PySem PySem.Spec PyProof.Rows L2
section
variable {X : Cx} {W : L2.WX} {sc : Sc} {Γ : List Kd} {pos : Pos}
end
end VV

/-! ## VObjF -/
/-! __init__, and an instance made -/
namespace VV
open PySem PySem.Spec PyProof.Rows L2
theorem repS_repL {mg : Mg} {H : Hp} : ∀ {ds : List D} {vs : List V} {fs : List (List Addr)}, RepS (Rep mg H) ds vs fs → RepL mg H ds vs fs.flatten
  | [], [], [], _ => by simp [RepL]
  | _ :: _, v :: vs, f :: fs, h => by
    simp only [RepL]
    exact ⟨v, vs, f, fs.flatten, rfl, h.1, repS_repL h.2, rfl⟩
  | [], _ :: _, _, h => h.elim
  | [], [], _ :: _, h => h.elim
  | _ :: _, [], _, h => h.elim
  | _ :: _, _ :: _, [], h => h.elim
theorem cells_startG {mg : Mg} {P : Fm} {g : Addr → Nat} {H : Hp} : ∀ {pk : List Kd} {ds : List D} {vs : List V} {fp : List Addr} (j : Nat), pkOk pk ds = true → RepL mg H ds vs fp → (∀ a ∈ fp, P.out a ∧ g a = 0) →
    Cells mg P g H (pk ++ List.replicate j .dead) (ds ++ List.replicate j .non) (vs.map some ++ List.replicate j none)
  | [], [], _, _, j, _, h, _ => by
    simp only [RepL] at h
    obtain ⟨rfl, _⟩ := h
    induction j with
    | zero => trivial
    | succ j ih => exact ⟨trivial, ih⟩
  | .flat :: pk, d :: ds, _, _, j, e, h, hf => by
    simp only [RepL] at h
    obtain ⟨v, r, f1, f2, rfl, h1, h2, rfl⟩ := h
    simp only [pkOk, Bool.and_eq_true] at e
    refine ⟨⟨v, rfl, ?_⟩, cells_startG j e.2 h2 fun a ha => hf a (List.mem_append_right _ ha)⟩
    rw [h1.flat e.1] at h1
    exact h1
  | .lab none [0] false :: pk, d :: ds, _, _, j, e, h, hf => by
    simp only [RepL] at h
    obtain ⟨v, r, f1, f2, rfl, h1, h2, rfl⟩ := h
    simp only [pkOk] at e
    refine ⟨⟨v, f1, rfl, h1, fun a ha => .inr ⟨.inr rfl, by rw [(hf a (List.mem_append_left _ ha)).2]; exact List.mem_singleton.mpr rfl, fun _ => (hf a (List.mem_append_left _ ha)).1⟩, .unk fun z => nomatch z⟩, cells_startG j e h2 fun a ha => hf a (List.mem_append_right _ ha)⟩
  | [], _ :: _, _, _, _, e, _, _ => by cases e
  | k :: _, [], _, _, _, e, _, _ => by unfold pkOk at e; split at e <;> simp_all
  | .dead :: _, _ :: _, _, _, _, e, _, _ => by cases e
  | .exc _ _ :: _, _ :: _, _, _, _, e, _, _ => by cases e
  | .ob _ _ :: _, _ :: _, _, _, _, e, _, _ => by cases e
  | .dk _ _ _ _ :: _, _ :: _, _, _, _, e, _, _ => by cases e
  | .pr _ _ _ :: _, _ :: _, _, _, _, e, _, _ => by cases e
  | .ow _ _ _ :: _, _ :: _, _, _, _, e, _, _ => by cases e
  | .lab none [] _ :: _, _ :: _, _, _, _, e, _, _ => by cases e
  | .lab none [0] true :: _, _ :: _, _, _, _, e, _, _ => by cases e
  | .lab none [k+1] _ :: _, _ :: _, _, _, _, e, _, _ => by cases e
  | .lab none (_ :: _ :: _) _ :: _, _ :: _, _, _, _, e, _, _ => by unfold pkOk at e; split at e <;> simp_all
  | .lab (some _) _ _ :: _, _ :: _, _, _, _, e, _, _ => by cases e
/-- what __init__ makes of an instance without attributes -/
def initSem (c : Str) (n : Nat) (pk : List Kd) (s : Sv) : List D → Option D := fun ds => if pkOk pk ds then
    match s (.obj c [] [] :: ds ++ List.replicate (n - (ds.length + 1)) .non) with
    | some (.nx ρ') => ρ'[0]?
    | _ => none
  else none
def spI (mg : Mg) (c : Str) (sem : List D → Option D) (n : Nat) : Sp := fun vs H Q _ => vs.length = n + 1 ∧ ∃ (a C dx : Addr) (ws : List V) (ds : List D) (fp : List Addr) (d : D), vs = .ref a :: ws ∧ mg.mg c = some (.ref C) ∧ H a = some (.ins C dx []) ∧ a ∉ fp ∧ RepL mg H ds ws fp ∧ sem ds = some d ∧
  ∀ H', (∀ b o, b ≠ a → H b = some o → H' b = some o) → Mut (H' a) → (∃ f, Rep mg H' d (.ref a) f ∧ f.Nodup ∧ ∀ b ∈ f, b = a ∨ New H H' b) → Q .non H'
section
variable {P : Program} {w : World} {K : PySem.W.Frag} {mg : Str → Option Value} {base : Heap} {x qual : Str} {params : Arguments} {body : List Stmt} {scope : Scope} {f : Addr} {fd : FuncData}
theorem fn_okI {N ps : List Str} {k : Nat} {sc : Sc} {Γ' : List Kd} {s : Sv} {c : Str} {n : Nat} {Ls : List (List Nat)} (F : FunD K x qual params body scope [] [] f fd) (S : FnScope N ps scope) (pk : List Kd) (hp : pk.length + 1 = ps.length) (hN : ps.length ≤ N.length) (hL : sc.LL = [])
    (hn : n ≠ 0) (hΓ : Γ'[0]? = some (.ob n Ls)) (hLs : (Ls.all fun L => !L.contains 0) = true)
    (hb : ∀ (cdv : Value) (A : Around) (outer : List Env) (s0 : Shared) (H : Hp) (E : XK), Room k (A.deeper (envOfC qual scope s0.heap.objs.size f cdv)) →
      SS (cxOf CX0 P w K mg base N qual scope f cdv A outer s0 H E).nox (fun _ _ _ _ => False) sc (.ob n [] :: (pk ++ List.replicate (N.length - (pk.length + 1)) .dead)) body s Γ') :
    FnOk P w K mg base CX0 (k + 1) f fd ps (spI ⟨mg, K⟩ c (initSem c N.length pk s) pk.length) := by
  refine F.ok S (fun vs H Q E h => by rw [h.1, hp]) (fun cdv A outer s0 H vs Q E hr h => ?_)
  obtain ⟨hl, a, C, dx, ws, ds, fp, d, rfl, hC, ha, hafp, r, e, q⟩ := h
  obtain ⟨t, p, kk⟩ := hb cdv A outer s0 H E hr
  refine ⟨t, p.nox, ?_⟩
  unfold initSem at e
  split at e
  · rename_i hpk
    have hlen := pkOk_len hpk
    have hvd := r.length
    have hgz : ∀ b ∈ fp, (if b = a then n else 0) = 0 := fun b hb => by
      rw [if_neg]
      intro z
      subst z
      exact hafp hb
    have st : Sta ⟨mg, K⟩ ⟨fun b => b ∈ fp ∨ b = a, fun _ => False⟩ sc.LL (.ob n [] :: (pk ++ List.replicate (N.length - (pk.length + 1)) .dead)) (fun b => if b = a then n else 0) (.obj c [] [] :: (ds ++ List.replicate (N.length - (ds.length + 1)) .non)) (L2.start N (.ref a :: ws)) H := by
      rw [hL]
      refine ⟨⟨fun b z => ?_, fun b hb => ?_, fun b z => z.elim⟩, ?_⟩
      · by_cases hba : b = a
        · subst hba; exact ⟨_, ha, .inl trivial⟩
        · exact absurd (if_neg hba) z
      · rcases hb with hb | rfl
        · exact r.there b hb
        · rw [ha]; simp
      · unfold L2.start
        rw [List.map_cons, List.length_cons, hvd, hlen]
        refine ⟨⟨a, C, dx, c, [], [], [], [], rfl, rfl, hC, rfl, ha, ⟨⟨by show (if a = a then n else 0) ∈ [n]; rw [if_pos rfl]; exact List.mem_singleton.mpr rfl, fun _ => .inr rfl⟩, .inr rfl⟩, trivial, trivial, by simp⟩, ?_⟩
        exact cells_startG _ hpk r fun b hb => ⟨.inl hb, hgz b hb⟩
    have e' : (match s (.obj c [] [] :: (ds ++ List.replicate (N.length - (ds.length + 1)) .non)) with
      | some (.nx ρ') => ρ'[0]?
      | _ => none) = some d := e
    cases o : s (.obj c [] [] :: (ds ++ List.replicate (N.length - (ds.length + 1)) .non)) with
    | none => rw [o] at e'; cases e'
    | some o' =>
      rw [o] at e'
      refine kk ⟨fun b => b ∈ fp ∨ b = a, fun _ => False⟩ (fun b => if b = a then n else 0) _ _ H o' _ st o ?_
      cases o' with
      | nx ρ' =>
        intro g' σ' H' s' st'
        rw [hL] at s' st'
        obtain ⟨d', ov, h1, h2, h3⟩ := st'.cells.get hΓ
        rw [show ρ'[0]? = some d from e'] at h1
        cases h1
        obtain ⟨a', C', dx', c', ns, vs', ds', fps, rfl, rfl, hC', hlv, hr', ob, rs, fs, nd⟩ := h3
        have hga' : g' a' = n := List.mem_singleton.mp ob.1.1
        have haa : a' = a := by
          rcases ob.2 with hfp | rfl
          · have h0 : (if a' = a then n else 0) = 0 := hgz a' hfp
            have := s'.lk a' (r.there a' hfp) (.inl h0)
            rw [hga'] at this
            exact absurd (this.trans h0) hn
          · rfl
        subst haa
        have keep : ∀ b o, b ≠ a' → H b = some o → H' b = some o := fun b o hba hb => s'.kp b (.inl (if_neg hba)) o hb
        have hmut : Mut (H' a') := by rw [hr']; trivial
        refine q H' keep hmut ⟨a' :: fps.flatten, ?_, nd, fun b hb => ?_⟩
        · simp only [Rep]
          exact ⟨a', C', dx', vs', fps.flatten, rfl, hC', hlv, hr', repS_repL rs, rfl⟩
        · rcases List.mem_cons.mp hb with rfl | hb
          · exact .inl rfl
          · right
            obtain ⟨f', hf', hbf⟩ := List.mem_flatten.mp hb
            obtain ⟨L, hLm, hbL⟩ := fs.mem hf' hbf
            have hgb : g' b ≠ 0 := fun z => by
              rw [List.all_eq_true] at hLs
              have h6 := hLs L hLm
              have h7 := hbL.1
              rw [z] at h7
              simp at h6
              exact h6 h7
            have hba : b ≠ a' := fun z => (List.nodup_cons.mp nd).1 (z ▸ hb)
            refine ⟨?_, ?_⟩
            · cases hq : H b with
              | none => rfl
              | some o =>
                exfalso
                have := s'.lk b (by rw [hq]; simp) (.inl (if_neg hba))
                exact hgb (this.trans (if_neg hba))
            · obtain ⟨o, e2, m | m⟩ := st'.loc.at_ b hgb
              · rw [e2]; exact m
              · exact m.elim
      | ct ρ' => cases e'
      | rt d' => cases e'
      | ex c ρ' => cases e'
  · cases e
end
/-- a class that can be made -/
def CalI (P : Program) (w : World) (K : PySem.W.Frag) (mg : Str → Option Value) (base : Heap) (c : Str) (k : Nat) (ps : List Str) (sem : List D → Option D) : Prop :=
  ∃ f fd C, FnOk P w K mg base CX0 k f fd ps (spI ⟨mg, K⟩ c sem (ps.length - 1)) ∧ mg c = some (.ref C) ∧ Mk K C f ∧ Binds K fd ps []
def eMake (sem : List D → Option D) (a : List D → Option (List D)) : Ev := fun ρ => (a ρ).bind sem
section
variable {X : Cx} {LL : List Nat} {Γ : List Kd} {pos p : Pos} {k : Nat} {ps : List Str} {sem : List D → Option D} {c : Str}
theorem ex_make {e : Expr} {es : List Expr} {a : List D → Option (List D)} {mm : Md} (ci : CalI X.prog X.w X.K X.mg X.base c k ps sem) (hr : Room (k + 1) X.A) (hg : Gl X c) (ha : EA X LL Γ (e :: es) a mm) (hn : (e :: es).length + 1 = ps.length := by rfl)
    (hdb : (c == ("__debug__" : Str)) = false := by decide) (he : starEach (e :: es) X.env = (false, eval e X.env) :: starEach es X.env := by rfl) (hpl : (backTo pos (starEach es X.env)).any (·.1) = false := by rfl) :
    EX X LL Γ (.Call (.Name c p) (e :: es) [] pos) (eMake sem a) (.al true .new [] true) := by
  obtain ⟨f, fd, C, F, hC, M, hb⟩ := ci
  obtain ⟨hl, t, pt, kk⟩ := ha
  refine ⟨_, pe_make M F hr hg hC hb .nil pass0 pt hdb he hpl, fun P g ρ σ H d Q s e0 q => ?_⟩
  obtain ⟨ds, e1, e2⟩ := Option.bind_eq_some_iff.mp e0
  refine kk P g ρ σ H ds _ s e1 fun vs H1 x1 vl => ?_
  obtain ⟨fp, r, o⟩ := vl
  intro y dy hy hdy hne
  have x2 : Ext H1 (upd (upd H1 dy (.own y)) y (.ins C dy [])) := fun b u hb => by
    have h1 : b ≠ y := fun z => by rw [z, hy] at hb; cases hb
    have h2 : b ≠ dy := fun z => by rw [z, hdy] at hb; cases hb
    rw [upd_ne h1, upd_ne h2]
    exact hb
  have hlen : (V.ref y :: (vs ++ [])).length = (ps.length - 1) + 1 := by
    rw [List.append_nil, List.length_cons, r.length, hl ρ ds e1]
    have := hn
    omega
  have hyfp : y ∉ fp := fun h => r.there y h hy
  refine ⟨hlen, y, C, dy, vs, ds, fp, d, by rw [List.append_nil], hC, upd_same, hyfp, r.ext x2, e2, fun H3 keep hmut hrep => ⟨rfl, ?_⟩⟩
  obtain ⟨f3, r3, n3, q3⟩ := hrep
  have x13 : Ext H1 H3 := fun b u hb => keep b u (fun z => by rw [z, hy] at hb; cases hb) (x2 b u hb)
  refine q (.ref y) H3 (x1.trans x13) ⟨f3, r3, fun b hb' => ?_, .of n3⟩
  have hnew : New H H3 b := by
    rcases q3 b hb' with rfl | h
    · exact ⟨x1.nope hy, hmut⟩
    · exact (h.back x2).back x1
  by_cases hv : V.ref y = .ref b
  · exact .inl ⟨hv, hnew⟩
  · exact .inr ⟨.inl hv, .inl ⟨rfl, hnew⟩⟩
end
end VV

/-! ## VZipL -/
/-! list(zip(t, u)) of two tuples, at the library's level -/
namespace VV
open PySem PySem.Spec PyProof.Rows RZ
open PySem.Sem (wp)
/-- a zip that has handed out a tuple -/
abbrev IsZipB (h : Heap) (z TI TO q : Addr) (b : Bool) : Prop :=
  h.get? z = some { cls := .type "zip", dict := none, data := .fields #[rawInt q, .bool b, .bool false, .ref TI, .ref TO], slots := #[] }
section
variable {prog : Program} {w : World} {A : Around} {E : Value → Shared → Prop} {s : Shared}
end
end VV

/-! ## VZipC -/
/-! list(zip(t, u)) of two tuples: the loop -/
namespace VV
open PySem PySem.Spec PyProof.Rows RZ
open PySem.Sem (wp)
structure ZS (S z TI TO i1 i2 l1 l2 : Addr) (B : Nat) (xs ys : Array Value) (k : Nat) (acc : Array Value) (h : Heap) : Prop where
  tI : IsPair h TI (.ref i1) (.ref i2)
  a1 : h.IsTupleIter i1 l1 k
  a2 : h.IsTupleIter i2 l2 k
  L1 : h.IsTuple l1 xs
  L2 : h.IsTuple l2 ys
  st : (IsZip h z TI TO .none ∧ ∃ a b, IsPair h TO a b) ∨ ∃ q b oq, IsZipB h z TI TO q b ∧ h.get? q = some oq ∧ B ≤ q
  hS : ∃ c, h.get? S = some { cls := .type "list", dict := none, data := .seq acc c, slots := #[] }
  sz : B ≤ (h.objs.size : Nat)
  len : acc.size = k
  its : ∀ (j : Nat) (x y : Value), j < k → xs[j]? = some x → ys[j]? = some y → ∃ q, acc[j]? = some (.ref q) ∧ B ≤ q ∧ IsPair h q x y
  lt : ∀ (j : Nat) (q : Addr), acc[j]? = some (.ref q) → (q : Nat) < (h.objs.size : Nat)
  dis : ∀ (i j : Nat) (q : Addr), acc[i]? = some (.ref q) → acc[j]? = some (.ref q) → i = j
section
variable {prog : Program} {w : World} {A : Around} {E : Value → Shared → Prop} {s : Shared}

end
end VV

/-! ## VZipD -/
/-! list(zip(t, u)) of two tuples: the call -/
namespace VV
open PySem PySem.Spec PyProof.Rows RZ
open PySem.Sem (wp)
section
variable {prog : Program} {w : World} {A : Around} {E : Value → Shared → Prop} {s : Shared}
end
end VV

/-! ## VZipE -/
/-! list(zip(t, u)) of two tuples -/
namespace VV
open PySem PySem.Spec PyProof.Rows L2
section
variable {X : Cx} {e e2 : Expr} {ta : TA} {p p2 pos pos2 : Pos}
end
end VV

/-! ## VZipF -/
/-! list(zip(t, u)) as trees -/
namespace VV
open PySem PySem.Spec PyProof.Rows L2
section
variable {X : Cx} {LL : List Nat} {Γ : List Kd} {p p2 pos pos2 : Pos} {a b : Expr} {sem : List D → Option (List D)} {m : Md}
end
end VV

/-! ## VIdxC -/
/-! X[i], X the module's tuple of texts -/
namespace VV
open PySem PySem.Spec PyProof.Rows L2
/-- a class's own statements -/
def clsB (s : Stmt) : List Stmt := match s with
  | .ClassDef _ _ _ b _ _ _ _ _ _ _ => b
  | _ => []
section
variable {X : Cx} {LL : List Nat} {Γ : List Kd} {pos p : Pos} {b : Expr} {sb : Ev} {mb : Md} {x : Str} {L : List Str}
end
section
variable {X : Cx} {LL : List Nat} {Γ : List Kd} {pos apos : Pos} {k : Nat} {ps : List Str} {sem : List D → Option Res} {c m : Str}
theorem ex_meth_flat {o e : Expr} {es : List Expr} {so : Ev} {a : List D → Option (List D)} {mo mm : Md} {pl : Sem Bool} (cm : CalM X.prog X.w X.K X.mg X.base c m k ps sem .flat) (hr : Room k X.A) (ho : EX X LL Γ o so mo) (ha : EA X LL Γ (e :: es) a mm) (hn : (e :: es).length + 1 = ps.length := by rfl)
    (hst : starEach (e :: es) X.env = (false, eval e X.env) :: starEach es X.env := by rfl) (hpl : (backTo pos (starEach es X.env)).any (·.1) = false := by rfl)
    (ht : eval (.Call (.Attribute o m apos) (e :: es) [] pos) X.env = (do
      let ov ← eval o X.env
      standAt apos.atName
      let (f, first) ← holding [ov] (getMethod ov m pl)
      callWith pos f first (backTo pos (starEach (e :: es) X.env)) (backToKw pos (keywordEach [] X.env))) := by rfl) :
    EX X LL Γ (.Call (.Attribute o m apos) (e :: es) [] pos) (eMeth c m sem so a) .flat := ex_meth cm hr ho ha hn (by decide) hst hpl ht
end
section
variable {X : Cx} {W : L2.WX} {sc : Sc} {Γ : List Kd} {LL : List Nat} {pos : Pos}
theorem sx_fld1 {i : Nat} {x : Str} {px pos' : Pos} {e : Expr} {se : Ev} {fr : Bool} {n : Nat} {Ls : List (List Nat)} {c f : Str} {m : Md} (k : Nat) (hc : ClsF X.K X.mg c) (hf : NoF X.K X.mg c f) (hk : Γ[i]? = some (.ob n Ls)) (hN : X.N[i]? = some x) (hv : Vis X.env.scope x)
    (he : EX X sc.LL Γ e se m) (hm : m = .al fr .new [] true := by rfl) (hn : n ≠ 0 := by decide) (hk0 : k ≠ 0 := by decide) (hL : n ∉ sc.LL := by decide) (hdb : (x == ("__debug__" : Str)) = false := by decide) (hcd : (x == ("__classdict__" : Str)) = false := by decide)
    (hs : swapsWith e (some (.Attribute (.Name x px) f pos')) pos.line X.env = pure false := by rfl) :
    SX X W sc Γ (.Assign [.Attribute (.Name x px) f pos'] e pos) (sFld0 i c f se) ((killK n Γ).set i (.ob n (Ls ++ [[k]]))) := by
  subst hm
  exact sx_fld0 k hc hf hk hN hv he hn hk0 hL hdb hcd hs
end
end VV

/-! ## VNin -/
/-! x in d, x not in d (d of nested keys); b is True, b is not True -/
namespace VV
open PySem PySem.Spec PyProof.Rows L2
section
variable {X : Cx} {pins : List (Addr × Obj)} {σ : L2.St} {H : Hp} {A : Around} {E : Value → Shared → Prop} {a b : Addr} {xs : List Ne} {k : NestedKey} {s : Shared}
end
section
variable {X : Cx} {o i : Expr} {td ty : TE}
end
section
variable {X : Cx} {LL : List Nat} {Γ : List Kd} {pos : Pos} {a b : Expr} {sa sb : Ev} {ma mb : Md}
end
/-! ### b is True -/
section
variable {X : Cx}
end
section
variable {X : Cx}
end
section
variable {X : Cx} {LL : List Nat} {Γ : List Kd} {pos : Pos} {a b : Expr} {sa sb : Ev} {ma mb : Md}
end
end VV

/-! ## VForF -/
/-! the walk over an attribute, a dict of nested keys -/
namespace VV
open PySem PySem.Spec PyProof.Rows L2
section
variable {X : Cx} {W : L2.WX} {sc : Sc} {Γ Γ1 : List Kd} {pos : Pos}
end
/-! ### o.m() -/
section
variable {X : Cx} {LL : List Nat} {Γ : List Kd} {pos apos : Pos} {k : Nat} {ps : List Str} {sem : List D → Option Res} {R : Rm} {c m : Str}
end
section
variable {X : Cx} {LL : List Nat} {Γ : List Kd} {pos apos : Pos} {k : Nat} {ps : List Str} {sem : List D → Option Res} {c m : Str}
end
end VV

/-! ## VTupM -/
/-! a list within a tuple of unlike objects: cleared, one flat thing more; the tuple is read on -/
namespace VV
open PySem PySem.Spec PyProof.Rows L2
section
variable {X : Cx} {W : L2.WX} {sc : Sc} {Γ : List Kd} {pos : Pos}
end
end VV

/-! ## VPopT -/
/-! d.pop(t), t a tuple that is a key; zip of two tuples -/
namespace VV
open PySem PySem.Spec PyProof.Rows L2
open PySem.W PySem.Calls
end VV
namespace L2.DX
open PySem PySem.Spec PyProof.Rows
end L2.DX
namespace VV
open PySem PySem.Spec PyProof.Rows L2
section
variable {X : Cx} {W : L2.WX} {sc : Sc} {Γ : List Kd} {pos : Pos}
end
/-! ### zip(tuple, tuple) -/
section
variable {X : Cx} {LL : List Nat} {Γ : List Kd} {pos p tpos : Pos} {a b : Expr} {sa sb : Ev} {ma : Md} {elts : List Expr} {kk : Nat}
end
end VV

/-! ## VForT -/
/-! for x in [a, b], a and b two tuples: its two turns one after the other -/
namespace VV
open PySem PySem.Spec PyProof.Rows L2
section
variable {X : Cx} {W : L2.WX} {sc : Sc} {Γ Γ1 Γ2 : List Kd} {pos : Pos}
end
end VV

/-! ## VAsgR -/
/-! a, b = f(..), a call that may raise -/
namespace VV
open PySem PySem.Spec PyProof.Rows L2
section
variable {X : Cx} {W : L2.WX} {sc : Sc} {Γ Γ' : List Kd} {pos : Pos}
end
end VV

/-! ## VStepN -/
/-! l[::k] of a list of flat things, k other than nought -/
namespace VV
open PySem PySem.Spec PyProof.Rows L2
section
variable {X : Cx} {e st : Expr} {te ts : TE} {pos p2 : Pos}
def tStepN (K : PySem.W.Frag) (te ts : TE) : TE := fun σ H Q => te σ H fun x H1 => ts σ H1 fun y H2 => ∃ (a : Addr) (xs : List V) (k : Int), x = .ref a ∧ y = .int k ∧ k ≠ 0 ∧ SqL K H2 a xs ∧ ∀ p, H2 p = none → Q (.ref p) (upd H2 p (.lst (pickS xs k)))
theorem pe_stepN (he : PE X e te) (hs : PE X st ts) : PE X (.Subscript e (.Slice none none (some st) p2) pos) (tStepN X.K te ts) := by
  refine ⟨fun pins s σ H Q I h => ?_⟩
  refine Subscript_ (thn (he.run pins s σ H _ I h) fun v s1 ⟨x, H1, I1, r1, q1⟩ => ?_)
  refine wpAny_Slice ?_
  rw [evalPart_none]
  refine wpAny_pure ?_
  refine wpAny_pure ?_
  rw [evalPart_some]
  refine thn (hs.run pins s1 σ H1 _ I1 q1) fun u s3 ⟨y, H3, I3, ry, q3⟩ => ?_
  obtain ⟨a, xs, k, rfl, rfl, hk, hx, q⟩ := q3
  obtain ⟨t, rfl⟩ := ry
  cases r1
  have I4 : Inv X pins σ H3 { s3 with heap := s3.heap.push { cls := .type "slice", data := .fields #[.none, .none, .int k t] } } := I3.kept (t' := s3.toks) fun b ob q => Heap.get?_push_of_some _ q
  obtain ⟨its, r, ht, hz⟩ := I4.list hx
  have hlen := r.length
  show wpAny (model X.prog X.w) X.A (subscriptTail e (.Slice none none (some st) p2) (.ref a) (.ref s3.heap.objs.size)) (EP X pins σ Q) X.xe { s3 with heap := s3.heap.push { cls := .type "slice", data := .fields #[.none, .none, .int k t] } }
  refine tail_any (ops := [.ref a, .ref s3.heap.objs.size]) ht.isList.typeIs slot_list_getitem.lookup ?_ (by with_unfolding_all rfl)
  refine wpAny_getItem_list_slice ht.isList (Heap.IsSliceOf.new ..) .none .none (.int k t) (fun c => by cases c; exact hk rfl) ?_ (by rw [List.size_toArray]; omega)
  rw [slicePick_S]
  have hp : pickS its.toArray.toList k = (sliceRange (sliceBounds none none (some k) xs.length).1 (sliceBounds none none (some k) xs.length).2.1 (sliceBounds none none (some k) xs.length).2.2).filterMap (its[·]?) := by
    unfold pickS
    rw [← hlen]
  rw [hp]
  refine ⟨.ref _, _, I4.laid (t' := s3.toks) (o := .lst (pickS xs k)) (fun b ob q => Heap.get?_push_of_some _ q) (Nat.le_refl _) ?_, rfl, q _ (I4.hok.fresh (Nat.le_refl _))⟩
  refine ⟨?_, _, 0, vals_pick r _, Heap.get?_push_size _ rfl⟩
  have h1 := slicePick_size_le its.toArray none none (some k)
  rw [slicePick_S, List.size_toArray, List.size_toArray] at h1
  have h2 := (vals_pick r (sliceRange (sliceBounds none none (some k) xs.length).1 (sliceBounds none none (some k) xs.length).2.1 (sliceBounds none none (some k) xs.length).2.2)).length
  rw [hp] at h1
  unfold pickS
  omega
end
def dStepN : List D → Option D
  | [.lst l, .int k] => if k ≠ 0 ∧ D.isFlatL l = true then some (.lst (pickS l k)) else none
  | _ => none
section
variable {X : Cx} {LL : List Nat} {Γ : List Kd} {pos p2 : Pos} {a b : Expr} {sa sb : Ev} {ma mb : Md}
theorem ex_stepN (ha : EX X LL Γ a sa ma) (hb : EX X LL Γ b sb mb) : EX X LL Γ (.Subscript a (.Slice none none (some b) p2) pos) (eP dStepN (aCons sa (aCons sb aNil))) (.al false .new [] true) := by
  obtain ⟨ta, tb, pa, pb, k⟩ := two ha hb
  refine ⟨_, pe_stepN pa pb, fun P g ρ σ H d Q s e q => ?_⟩
  obtain ⟨ds, e1, e⟩ := bind_some e
  refine k P g ρ σ H ds _ s e1 fun d1 d2 v w H' eds x va vb vl => ?_
  subst eds
  unfold dStepN at e
  split at e
  · split at e
    · rename_i l i eq hc
      cases eq
      cases e
      obtain ⟨c, vs, rfl, hv, hlen, _, fl, rl, _⟩ := seq_of va
      obtain ⟨fp2, rw', _⟩ := vb.unroot
      obtain rfl := rInt rw'
      refine ⟨c, vs, i, rfl, rfl, hc.1, SqL.of hv, fun p hp => ?_⟩
      have hr := repL_pick (rl.flats hc.2) (sliceRange (sliceBounds none none (some i) l.length).1 (sliceBounds none none (some i) l.length).2.1 (sliceBounds none none (some i) l.length).2.2)
      have e2 : pickS vs i = (sliceRange (sliceBounds none none (some i) l.length).1 (sliceBounds none none (some i) l.length).2.1 (sliceBounds none none (some i) l.length).2.2).filterMap (vs[·]?) := by
        unfold pickS
        rw [hlen]
      rw [e2]
      exact q _ _ (x.trans (Ext.put hp)) (val_lst (m := .flat) ⟨[], hr, rfl⟩ x hp)
    · cases e
  · cases e
end
end VV

/-! ## VTryO -/
/-! try .. except X: without a name, a suite that returns -/
namespace VV
open PySem PySem.Spec PyProof.Rows L2
section
variable {X : Cx} {W : L2.WX} {sc : Sc} {Γ Γ' : List Kd} {pos pos' np : Pos} {L : List Str}
end
end VV

/-! ## VAnyI -/
/-! any(a list of whole numbers) -/
namespace VV
open PySem PySem.Spec PyProof.Rows L2
section
variable {X : Cx}
end
end VV

/-! ## VSlP -/
/-! x[i][a:b] = [flat things], into a list of lists of flat things -/
namespace VV
open PySem PySem.Spec PyProof.Rows L2
section
variable {X : Cx} {e lo hi : Expr} {te ta tb : TE} {pos p2 : Pos}
end
section
variable {X : Cx} {W : L2.WX} {sc : Sc} {Γ : List Kd} {pos : Pos}
end
end VV

/-! ## VErA -/
/-! f(a, g(..)): both calls may raise -/
namespace VV
open PySem PySem.Spec PyProof.Rows L2
section
variable {X : Cx} {W : L2.WX} {LL : List Nat} {Γ : List Kd} {pos p : Pos} {k : Nat} {ps : List Str} {sem : List D → Option Res} {R : Rm} {x : Str}
end
end VV

/-! ## VTry2 -/
/-! try .. except (X, Y): without a name, a suite that returns -/
namespace VV
open PySem PySem.Spec PyProof.Rows L2
section
variable {X : Cx} {x x2 : Str} {c c2 : Value} {body suite : List Stmt} {b₀ : Stmt} {np np2 tp pos pos' : Pos} {kk : Nat} {tb : L2.WX → TS} {ts : Addr → Value → Option Addr → TS} {Wout : L2.WX}
end
section
variable {X : Cx} {W : L2.WX} {sc : Sc} {Γ Γ' : List Kd} {pos pos' np np2 tp : Pos} {kk : Nat} {L : List Str}
end
end VV

/-! ## VDictP -/
/-! dict(xs) of a list of pairs: unlike whole numbers, and flat things -/
namespace VV
open PySem PySem.Spec PyProof.Rows L2
section
variable {X : Cx} {LL : List Nat} {Γ : List Kd} {pos p : Pos} {a : Expr} {sa : Ev} {ma : Md}
end
end VV

/-! ## VAsgU -/
/-! a, b, .. = a new tuple: each part by labels of its own -/
namespace VV
open PySem PySem.Spec PyProof.Rows L2
open scoped Classical
noncomputable def relF (g : Addr → Nat) (H H' : Hp) (f : Addr → Nat) : Addr → Nat := fun a => if New H H' a then f a else g a
theorem relF_old {g f : Addr → Nat} {H H' : Hp} {a : Addr} (h : H a ≠ none) : relF g H H' f a = g a := by
  unfold relF; rw [if_neg fun z => h z.1]
theorem relF_new {g f : Addr → Nat} {H H' : Hp} {a : Addr} (h : New H H' a) : relF g H H' f a = f a := by
  unfold relF; rw [if_pos h]
section
variable {mg : Mg} {P : Fm} {LL : List Nat} {g f : Addr → Nat} {ρ : List D} {σ : L2.St} {H H' : Hp}
theorem Old.relF {L : List Nat} {a : Addr} (o : Old P g L a) (l : Loc P LL g H) : Old P (relF g H H' f) L a := by
  unfold Old
  rw [relF_old (o.there l)]
  exact o
theorem Loc.relF (l : Loc P LL g H) (e : Ext H H') : Loc P LL (relF g H H' f) H' := by
  refine ⟨fun a h => ?_, (l.ext e).out, fun a h => ?_⟩
  rotate_left
  · have := l.fz a h
    obtain ⟨⟨o, u, q⟩, this2⟩ := this
    exact ⟨⟨o, u, e a _ q⟩, by rw [relF_old (by rw [q]; simp)]; exact this2⟩
  by_cases hn : New H H' a
  · obtain ⟨h1, h2⟩ := hn
    cases q : H' a with
    | none => rw [q] at h2; exact h2.elim
    | some o => rw [q] at h2; exact ⟨o, rfl, .inl h2⟩
  · by_cases h0 : H a = none
    · unfold VV.relF at h
      rw [if_neg hn] at h
      obtain ⟨o, e1, _⟩ := l.at_ a h
      rw [h0] at e1; cases e1
    · rw [relF_old h0] at h
      exact (l.ext e).at_ a h
theorem CellOk.relF {k : Kd} {d : D} {ov : Option V} (c : CellOk mg P g H k d ov) (l : Loc P LL g H) (e : Ext H H') : CellOk mg P (relF g H H' f) H' k d ov := by
  induction k generalizing d ov with
  | dead => trivial
  | pr p k1 k2 i1 i2 =>
    obtain ⟨a, d1, d2, v1, v2, e0, e1, r, o, c1, c2⟩ := c
    exact ⟨a, d1, d2, v1, v2, e0, e1, e a _ r, o.relF l, i1 c1, i2 c2⟩
  | ow fl n L =>
    obtain ⟨a, f, e0, r, nd, o1, o2, o3⟩ := c
    exact ⟨a, f, e0, r.ext e, nd, o1.relF l, fun x hx => (o2 x hx).relF l, o3⟩
  | exc _ _ => exact c
  | ob m Ls =>
    obtain ⟨b, C, dx, c, ns, vs, ds, fps, rfl, rfl, hc, hl, r, ob, rs, fs, nd⟩ := c
    exact ⟨b, C, dx, c, ns, vs, ds, fps, rfl, rfl, hc, hl, e b _ r, ⟨ob.1.relF l, ob.2⟩, rs.mono fun d v f h => h.ext e, fs.mono fun b L h => h.relF l, nd⟩
  | dk fl n' l' L =>
    obtain ⟨a, b, F, e0, r, o1, o2, o3, o4⟩ := c
    exact ⟨a, b, F, e0, r.ext e, o1.relF l, o2.relF l, fun x hx => (o3 x hx).relF l, o4⟩
  | flat => obtain ⟨v, rfl, r⟩ := c; exact ⟨v, rfl, r.ext e⟩
  | lab rt L nd =>
    obtain ⟨w, fp, rfl, r, o, z⟩ := c
    refine ⟨w, fp, rfl, r.ext e, fun a ha => ?_, z⟩
    rcases o a ha with ⟨x, k, y, o'⟩ | ⟨x, o'⟩
    · exact .inl ⟨x, k, y, o'.relF l⟩
    · exact .inr ⟨x, o'.relF l⟩
theorem Cells.relF (l : Loc P LL g H) (e : Ext H H') : ∀ {Γ : List Kd} {ρ : List D} {σ : L2.St}, Cells mg P g H Γ ρ σ → Cells mg P (relF g H H' f) H' Γ ρ σ
  | [], [], [], _ => trivial
  | _ :: _, _ :: _, _ :: _, h => ⟨h.1.relF l e, Cells.relF l e h.2⟩
  | [], _ :: _, _, h => h.elim
  | [], [], _ :: _, h => h.elim
  | _ :: _, [], _, h => h.elim
  | _ :: _, _ :: _, [], h => h.elim
theorem Sta.relF {Γ : List Kd} (s : Sta mg P LL Γ g ρ σ H) (e : Ext H H') : Sta mg P LL Γ (relF g H H' f) ρ σ H' := ⟨s.loc.relF e, s.cells.relF s.loc e⟩
end
/-! ### targets, each of a kind -/
section
variable {X : Cx} {W : L2.WX} {sc : Sc} {Γ Γ' Γ1 : List Kd} {pos : Pos}
end
end VV

/-! ## VPutT -/
/-! x[i][j] = e, a thing that may be new into a list of flat lists -/
namespace VV
open PySem PySem.Spec PyProof.Rows L2
section
variable {mg : Mg} {H : Hp}
end
section
variable {X : Cx} {W : L2.WX} {sc : Sc} {Γ : List Kd} {pos : Pos}
end
end VV

/-! ## VShow -/
/-! repr(x) of a thing, in a def of which it is known that no thing's text is being made around it: the law itself, called by its caller -/
namespace VV
open PySem PySem.Spec PyProof.Rows L2
section
variable {X : Cx}
end
section
variable {X : Cx} {LL : List Nat} {Γ : List Kd} {pos : Pos} {a b : Expr} {sa sb : Ev} {ma mb : Md}
end
section
variable {P : Program} {w : World} {K : PySem.W.Frag} {mg : Str → Option Value} {base : Heap} {x qual : Str} {params : Arguments} {body : List Stmt} {scope : Scope} {f : Addr} {fd : FuncData}
end
end VV

/-! ## VTx -/
/-! texts read: startswith, split, int(text), text[i], a sign in a text, the signs of a text -/
namespace VV
open PySem PySem.Spec PyProof.Rows L2
def sgnD (x : Str) : List D := x.cps.toList.map fun c => .str ⟨#[c]⟩
section
variable {X : Cx} {LL : List Nat} {Γ : List Kd} {pos apos p : Pos} {a b tg e : Expr} {sa sb se : Ev} {ma mb m : Md}
end
end VV

/-! ## VFdefs -/
/-! the trees of the defs that the laws of drawings and openings share (printed by gen.py) -/
namespace VP
open PySem PySem.Spec PyProof.Rows L2 VV VP

end VP

/-! ## VFA -/
/-! the law's numbers; words; mixing up -/
namespace VP
open PySem PySem.Spec PyProof.Rows L2 VV VP


end VP

/-! ## VFB -/
/-! while; ==; mixing up; drawings -/
namespace VV
open PySem PySem.Spec PyProof.Rows L2
section
variable {ρ : List D} {b : Sv} {c : List D → Option Bool} {Q : Out → Prop}
theorem go_while (R : Nat → List D → Prop) (n : Nat) (hn : n < 1000000) (h0 : R n ρ)
    (k : ∀ m ρ, R m ρ → (c ρ = some false ∧ Q (.nx ρ)) ∨ (c ρ = some true ∧ Go b ρ fun o => ∃ m' ρ2, m' < m ∧ (o = .nx ρ2 ∨ o = .ct ρ2) ∧ R m' ρ2)) : Go (sWhile c b) ρ Q := by
  have key : ∀ (N m : Nat) (ρ : List D), m < N → R m ρ → ∃ o, whileL c b N ρ = some o ∧ Q o := by
    intro N
    induction N with
    | zero => intro m ρ h _; omega
    | succ N ih =>
      intro m ρ h hR
      unfold whileL
      rcases k m ρ hR with ⟨h1, h2⟩ | ⟨h1, o, h2, m', ρ2, h3, h4, h5⟩
      · rw [h1]; exact ⟨_, rfl, h2⟩
      · rw [h1]
        dsimp only
        rw [h2]
        obtain ⟨o', e1, e2⟩ := ih m' ρ2 (by omega) h5
        rcases h4 with rfl | rfl
        · exact ⟨o', e1, e2⟩
        · exact ⟨o', e1, e2⟩
  obtain ⟨o, e1, e2⟩ := key (n + 1) n ρ (by omega) h0
  exact ⟨o, whileL_mono e1 (by show n + 1 ≤ 1000000000; omega), e2⟩
end
section
variable {α : Type} [DecidableEq α]
/-- trees of which == tells whether they are the same -/
def Eqv (x : α → D) : Prop := ∀ a b, (x a).eqv (x b) = decide (a = b)
theorem Eqv.all {x : α → D} (h : Eqv x) : ∀ l m : List α, PyData.eqvAll (D.toPL (l.map x)) (D.toPL (m.map x)) = decide (l = m)
  | [], [] => by simp [D.toPL, PyData.eqvAll]
  | [], _ :: _ => by simp [D.toPL, PyData.eqvAll]
  | _ :: _, [] => by simp [D.toPL, PyData.eqvAll]
  | a :: l, b :: m => by
    have h1 := h a b
    unfold D.eqv at h1
    simp only [List.map_cons, D.toPL, PyData.eqvAll, h1, Eqv.all h l m]
    by_cases e : a = b <;> by_cases e2 : l = m <;> simp [e, e2]
theorem Eqv.lst {x : α → D} (h : Eqv x) : Eqv fun l : List α => D.lst (l.map x) := fun l m => by
  show PyData.eqv (D.toP (.lst (l.map x))) (D.toP (.lst (m.map x))) = _
  simp only [D.toP, PyData.eqv]
  exact h.all l m
theorem Eqv.int : Eqv D.int := fun a b => by
  show PyData.eqv (D.toP (.int a)) (D.toP (.int b)) = _
  simp only [D.toP, PyData.eqv]
  exact beq_dec a b
theorem ne_of_eqv {x : α → D} (h : Eqv x) {n : Nat} {a b : α} (ha : VP.Ok n (x a)) (hb : VP.Ok n (x b)) (hn : n ≤ 64) : dNe [x a, x b] = some (.bl (decide (a ≠ b))) := by
  unfold dNe
  dsimp only
  rw [ha.shd hn, hb.shd hn, h a b]
  simp
end
section
variable {i j : Nat} {se ke ve : Ev} {ρ ρ1 ρ2 : List D} {t u : Tv} {a b d d1 y z x xl yl k : D} {p : D × D}
end
end VV
namespace VP
open PySem PySem.Spec PyProof.Rows L2 VV VP
end VP

/-! ## VExg -/
/-! exceptions, evaluated -/
namespace VV
open PySem PySem.Spec PyProof.Rows L2
section
variable {i n : Nat} {ρ ρ' ds : List D} {d : D} {b s m : Sv} {L : List Str} {y c : Str} {pk : List Kd} {r : List D → Option Res} {Q : Out → Prop} {f : List D → Option Res} {a : List D → Option (List D)} {t : List D → Option Bool}
@[simp] theorem go_raise : Go (sRaise c) ρ Q = Q (.ex c ρ) := by
  unfold Go sRaise
  simp
@[simp] theorem cont_ex : Cont b Q (.ex c ρ) = Q (.ex c ρ) := rfl
end
end VV
namespace VP
open PySem PySem.Spec PyProof.Rows L2 VV
end VP

/-! ## VFC -/
/-! joining of names: roots; drawings: ends, pairs -/
namespace VP
open PySem PySem.Spec PyProof.Rows L2 VV VP

/-! ### classes -/
inductive Eqn (Ps : List (Int × Int)) : Int → Int → Prop
  | gen {p : Int × Int} : p ∈ Ps → Eqn Ps p.1 p.2
  | refl (n : Int) : Eqn Ps n n
  | symm {n m : Int} : Eqn Ps n m → Eqn Ps m n
  | trans {n m k : Int} : Eqn Ps n m → Eqn Ps m k → Eqn Ps n k
theorem Eqn.mono {Ps Qs : List (Int × Int)} (h : ∀ p ∈ Ps, p ∈ Qs) {n m : Int} (e : Eqn Ps n m) : Eqn Qs n m := by
  induction e with
  | gen hp => exact .gen (h _ hp)
  | refl n => exact .refl n
  | symm _ ih => exact ih.symm
  | trans _ _ ih1 ih2 => exact ih1.trans ih2
/-- each name's least one of its class -/
structure IsRt (Ps : List (Int × Int)) (rt : Int → Int) : Prop where
  pr : ∀ p ∈ Ps, rt p.1 = rt p.2
  eq : ∀ n, Eqn Ps n (rt n)
  le : ∀ n, rt n ≤ n
theorem IsRt.nil : IsRt [] id := ⟨by simp, fun n => .refl n, fun n => Int.le_refl _⟩
/-- one pair more -/
def joinR (rt : Int → Int) (x y : Int) : Int → Int := fun n => if rt n = max (rt x) (rt y) then min (rt x) (rt y) else rt n
theorem IsRt.join {Ps : List (Int × Int)} {rt : Int → Int} (h : IsRt Ps rt) (x y : Int) : IsRt (Ps ++ [(x, y)]) (joinR rt x y) := by
  have mon : ∀ {n m}, Eqn Ps n m → Eqn (Ps ++ [(x, y)]) n m := fun e => e.mono fun p hp => List.mem_append_left _ hp
  have exy : Eqn (Ps ++ [(x, y)]) x y := .gen (p := (x, y)) (List.mem_append_right _ (List.mem_singleton.mpr rfl))
  have hx := mon (h.eq x)
  have hy := mon (h.eq y)
  have hmm : Eqn (Ps ++ [(x, y)]) (max (rt x) (rt y)) (min (rt x) (rt y)) := by
    by_cases hle : rt x ≤ rt y
    · rw [Int.max_eq_right hle, Int.min_eq_left hle]
      exact hy.symm.trans (exy.symm.trans hx)
    · rw [Int.max_eq_left (by omega), Int.min_eq_right (by omega)]
      exact hx.symm.trans (exy.trans hy)
  refine ⟨fun p hp => ?_, fun n => ?_, fun n => ?_⟩
  · rcases List.mem_append.mp hp with hp | hp
    · unfold joinR
      rw [h.pr p hp]
    · obtain rfl := List.mem_singleton.mp hp
      unfold joinR
      dsimp only
      split <;> split <;> omega
  · unfold joinR
    split
    · rename_i e
      refine (mon (h.eq n)).trans ?_
      rw [e]
      exact hmm
    · exact mon (h.eq n)
  · have := h.le n
    unfold joinR
    split <;> omega
/-- the heads stand for the classes -/
structure Heads (N : List Int) (h rt : Int → Int) : Prop where
  mem : ∀ n ∈ N, h n ∈ N
  le : ∀ n ∈ N, h n ≤ n
  rh : ∀ n ∈ N, rt (h n) = rt n
  fix : ∀ n ∈ N, h n = n → rt n = n
  hr : ∀ n ∈ N, h (rt n) = rt n
  rm : ∀ n ∈ N, rt n ∈ N

/-! ### the dict of heads -/
def kI (n : Int) : Ky := .k (.inl n)
def mD (N : List Int) (h : Int → D) : D := .dic false (N.map kI) (N.map h)
theorem kI_inj {a b : Int} (e : kI a = kI b) : a = b := by cases e; rfl
theorem lk_m {N : List Int} {h : Int → D} {n : Int} (hn : n ∈ N) : lkD (N.map kI) (N.map h) (kI n) = some (h n) := by
  induction N with
  | nil => cases hn
  | cons a r ih =>
    simp only [List.map_cons, lkD, List.zip_cons_cons, List.find?_cons]
    by_cases e : a = n
    · subst e; simp
    · have : ¬ kI a = kI n := fun z => e (kI_inj z)
      simp only [this, decide_false]
      exact ih ((List.mem_cons.mp hn).elim (fun z => absurd z.symm e) id)
@[simp] theorem get_m {N : List Int} {h : Int → D} {n : Int} (hn : n ∈ N) : dGet [mD N h, .int n] = some (h n) := by
  unfold mD
  rw [dGet_s]
  exact lk_m hn
end VP

/-! ## VFE -/
/-! drawings: names, openings, pairs, loops -/
namespace VP
open PySem PySem.Spec PyProof.Rows L2 VV VP
/-- a crossing: its sign, under in, under out, over in, over out -/
structure Cr where
  (s a b c d : Int)
  deriving DecidableEq
def crD (x : Cr) : D := .tup [.int x.s, .int x.a, .int x.b, .int x.c, .int x.d]
def intsD (l : List Int) : D := .lst (l.map D.int)
def drD (rs : List Int) (cs : List Cr) : D := .tup [intsD rs, .lst (cs.map crD)]
def insC (cs : List Cr) : List Int := cs.flatMap fun x => [x.a, x.c]
def outsC (cs : List Cr) : List Int := cs.flatMap fun x => [x.b, x.d]
@[simp] theorem cr_flat {x : Cr} : (crD x).isFlat = true := by simp [crD]
@[simp] theorem dr0 {rs : List Int} {cs : List Cr} : dIdx [drD rs cs, .int 0] = some (intsD rs) := by simp [drD]
@[simp] theorem dr1 {rs : List Int} {cs : List Cr} : dIdx [drD rs cs, .int 1] = some (.lst (cs.map crD)) := by simp [drD]
@[simp] theorem cr0 {x : Cr} : dIdx [crD x, .int 0] = some (.int x.s) := by simp [crD]
@[simp] theorem cr1 {x : Cr} : dIdx [crD x, .int 1] = some (.int x.a) := by simp [crD]
@[simp] theorem cr2 {x : Cr} : dIdx [crD x, .int 2] = some (.int x.b) := by simp [crD]
@[simp] theorem cr3 {x : Cr} : dIdx [crD x, .int 3] = some (.int x.c) := by simp [crD]
@[simp] theorem cr4 {x : Cr} : dIdx [crD x, .int 4] = some (.int x.d) := by simp [crD]

/-! ### sorted -/
@[simp] theorem kf_ints {l : List Int} : (intsD l).kidsFlat = true := by simp [intsD]

/-! ### openings, pairs -/
end VP

/-! ## VFG -/
/-! the loops of an opening -/
namespace VP
open PySem PySem.Spec PyProof.Rows L2 VV VP
section
variable {K : List Int} {F : Int → D} {n : Int} {l : List D} {y : D}
end
section
variable {rs : List Int} {cs : List Cr} {bs : List Int} (hnd : (rs ++ insC cs).Nodup) (hcl : ∀ x ∈ cs, x.b ∈ rs ++ insC cs ∧ x.d ∈ rs ++ insC cs) (hl : rs.length + 2 * cs.length < 64) (hb : bs.length = cs.length) (hb01 : ∀ b ∈ bs, b = 0 ∨ b = 1)
include hcl in
include hnd hcl hl hb hb01
end
end VP

/-! ## VFH -/
/-! drawings that are good; the closing of a word, plain -/
namespace VP
open PySem PySem.Spec PyProof.Rows L2 VV VP
/-- two colours of the names: at a crossing in turn -/
def ColX (col : Int → Bool) (x : Cr) : Prop := col x.b = !col x.a ∧ col x.c = col x.b ∧ col x.d = col x.a
structure Good (rs : List Int) (cs : List Cr) : Prop where
  nd : (rs ++ insC cs).Nodup
  op : (outsC cs).Perm (insC cs)
  col : ∃ col : Int → Bool, ∀ x ∈ cs, ColX col x
  sg : ∀ x ∈ cs, x.s = 1 ∨ x.s = -1
def rg (m : Nat) : List Int := (List.range m).map fun i : Nat => (i : Int)
/-- a word so far -/
structure Brd (n i : Nat) (here : List Int) (cs : List Cr) : Prop where
  ln : here.length = n
  cn : cs.length = i
  ih : (insC cs ++ here).Perm (rg (n + 2 * i))
  ou : ∀ z, z ∈ outsC cs ↔ (n : Int) ≤ z ∧ z < n + 2 * i
  on : (outsC cs).Nodup
  st : ∀ (j : Nat) (v : Int), here[j]? = some v → v < n → v = (j : Nat)
  co : ∃ col : Int → Bool, (∀ (j : Nat) (v : Int), here[j]? = some v → col v = decide (j % 2 = 1)) ∧ (∀ j : Nat, j < n → col j = decide (j % 2 = 1)) ∧ ∀ x ∈ cs, ColX col x
  sg : ∀ x ∈ cs, x.s = 1 ∨ x.s = -1
end VP

/-! ## VFI -/
/-! the closing of a word: good; what the program's law makes -/
namespace VP
open PySem PySem.Spec PyProof.Rows L2 VV VP
end VP

/-! ## VFJ -/
/-! the closing of a word: the law's own function -/
namespace VP
open PySem PySem.Spec PyProof.Rows L2 VV VP
theorem chk_cr {x : Cr} : (some (crD x)).filter D.isTup = some (crD x) := rfl
end VP

/-! ## VFK -/
/-! a curl put in, plain -/
namespace VP
open PySem PySem.Spec PyProof.Rows L2 VV VP
end VP

/-! ## VFL -/
/-! a curl: the law's own function -/
namespace VP
open PySem PySem.Spec PyProof.Rows L2 VV VP
theorem list4 {x : Cr} : dList [.tup [.int x.a, .int x.b, .int x.c, .int x.d]] = some (intsD [x.a, x.b, x.c, x.d]) := rfl
end VP

/-! ## VFM -/
/-! other names, other orders; the drawing of a law -/
namespace VP
open PySem PySem.Spec PyProof.Rows L2 VV VP
/-- the names given so far -/
structure Nmd (K : List Int) (sg : Int) (φ : Int → Int) : Prop where
  nd : K.Nodup
  vl : ∀ (j : Nat) (n : Int), K[j]? = some n → ∃ r : Int, 0 ≤ r ∧ r < 1009 ∧ φ n = (1000000000 * r + j) * sg
end VP

/-! ## VFN -/
/-! the drawing of a law -/
namespace VP
open PySem PySem.Spec PyProof.Rows L2 VV VP
end VP

/-! ## VFP -/
/-! sorted lists of lists; which loops -/
namespace VP
open PySem PySem.Spec PyProof.Rows L2 VV VP
theorem ints_ok {l : List Int} : Ok 1 (intsD l) := Ok.lst fun a _ => Ok.int

/-! ### by other names -/
end VP

/-! ## VFdefs2 -/
/-! the trees of the law's own ends, bits, loops (printed by gen.py) -/
namespace VP
open PySem PySem.Spec PyProof.Rows L2 VV VP

end VP

/-! ## VFQ -/
/-! the law's own ends, bits, copies -/
namespace VP
open PySem PySem.Spec PyProof.Rows L2 VV VP
end VP

/-! ## VFR -/
/-! heaps of names, plain -/
namespace VP
open PySem PySem.Spec PyProof.Rows L2 VV VP
structure Hps (N : List Int) (Ps : List (Int × Int)) (H : List (List Int)) : Prop where
  pm : H.flatten.Perm N
  ne : ∀ h ∈ H, h ≠ []
  eq : ∀ h ∈ H, ∀ a ∈ h, ∀ b ∈ h, Eqn Ps a b
  pr : ∀ p ∈ Ps, ∃ h ∈ H, p.1 ∈ h ∧ p.2 ∈ h
section
variable {N : List Int} {Ps : List (Int × Int)} {H : List (List Int)} (hN : N.Nodup) (h : Hps N Ps H)
include hN h
end
end VP

/-! ## VFS -/
/-! heaps in order are the loops -/
namespace VP
open PySem PySem.Spec PyProof.Rows L2 VV VP
end VP

/-! ## VFT -/
/-! the law's own loops -/
namespace VP
open PySem PySem.Spec PyProof.Rows L2 VV VP
theorem ne_ints {m u : List Int} : dNe [intsD m, intsD u] = some (.bl (decide (m ≠ u))) := ne_of_eqv (x := intsD) (Eqv.lst Eqv.int) ints_ok ints_ok (by decide)
section
variable {rs : List Int} {cs : List Cr} {bs : List Int} (g : Good rs cs) (hl : rs.length + 4 * cs.length < 64) (hb : bs.length = cs.length) (hb01 : ∀ b ∈ bs, b = 0 ∨ b = 1)
include g hl hb hb01
end
end VP

/-! ## VFU -/
/-! chains of a partial injection: a class from its start to its end -/
namespace VP
open PySem PySem.Spec PyProof.Rows L2 VV VP
section
variable {Pr : List (Int × Int)} {N : List Int} {f : Int → Option Int}
end
end VP

/-! ## VFV -/
/-! the edges of an opening, led by the colours -/
namespace VP
open PySem PySem.Spec PyProof.Rows L2 VV VP
end VP

/-! ## VFW -/
/-! the heart of turning over: one place of an opening -/
namespace VP
open PySem PySem.Spec PyProof.Rows L2 VV VP
end VP

/-! ## VFX -/
/-! two loops joined: places in both lists -/
namespace VP
open PySem PySem.Spec PyProof.Rows L2 VV VP
end VP

/-! ## VFY -/
/-! an opening turned over at one place: its loops and those of the next one -/
namespace VP
open PySem PySem.Spec PyProof.Rows L2 VV VP
theorem IsRt.ex_go : ∀ (Qs Ps : List (Int × Int)) (rt : Int → Int), IsRt Ps rt → ∃ rt', IsRt (Ps ++ Qs) rt'
  | [], Ps, rt, h => ⟨rt, by simpa using h⟩
  | q :: Qs, Ps, rt, h => by
    obtain ⟨rt', h'⟩ := IsRt.ex_go Qs (Ps ++ [q]) _ (h.join q.1 q.2)
    exact ⟨rt', by simpa using h'⟩
theorem IsRt.ex (Ps : List (Int × Int)) : ∃ rt, IsRt Ps rt := by simpa using IsRt.ex_go Ps [] id IsRt.nil
/-- sep: the loops of one opening; the other one has two of them joined -/
structure Apart (N : List Int) (Ps Qs : List (Int × Int)) (rt : Int → Int) (a b : Int) : Prop where
  p : IsRt Ps rt
  q : IsRt Qs (joinR rt a b)
  ha : a ∈ N
  hb : b ∈ N
  ne : rt a ≠ rt b
  me : ∀ n ∈ N, rt n ∈ N
end VP

/-! ## VFZ -/
/-! drawings are alike to themselves -/
namespace VP
open PySem PySem.Spec PyProof.Rows L2 VV VP
theorem crD_ints {x : Cr} : crD x = .tup ([x.s, x.a, x.b, x.c, x.d].map D.int) := rfl
end VP

/-! ## VTy -/
/-! texts of numbers, joined and split, cut, read (the first part as for k82) -/
namespace VT
open PySem PySem.Spec PyProof.Rows L2 VV VP
open TL (tl ext_tl tl_append)
/-- a text of at most n signs, each a sign -/
structure Gd (n : Nat) (x : Str) : Prop where
  ln : x.length ≤ n
  ok : PyData.strOk x = true


theorem sgn_s {x : Str} : sgnD x = (tl x).map fun c => .str ⟨#[c]⟩ := rfl
end VT

/-! ## VTxM -/
/-! more of texts: strip(signs), partition, text * number, a sign not in a text; replace (behind a statement that has given out a token) -/
namespace VV
open PySem PySem.Spec PyProof.Rows L2
section
variable {X : Cx} {LL : List Nat} {Γ : List Kd} {pos apos p : Pos} {a b e : Expr} {sa sb se : Ev} {ma mb m : Md}
end
/-! ### one token is out -/
section
variable {X : Cx} {W : L2.WX} {sc : Sc} {LL : List Nat} {Γ Γ1 Γ' : List Kd} {pos apos p : Pos} {a b e : Expr} {sa sb se : Ev} {ma mb m : Md}
end
end VV

/-! ## VLcR -/
/-! [f(x) for x in ..], f may raise: what the block lets out goes on to the def -/
namespace VV
open PySem PySem.Spec PyProof.Rows L2
section
variable {M : Model} {A : Around} {E : Value → Shared → Prop} {s : Shared} {env : Env}
end
section
variable {X : Cx} {W : L2.WX}
end
/-! ### as trees -/
section
variable {X : Cx} {W : L2.WX} {LL : List Nat} {Γ Γ1 : List Kd} {pos : Pos}
end
end VV

/-! ## VMDic -/
/-! the module's dicts with texts as keys, whole numbers or tuples of texts as values; zip of such a tuple and a list -/
namespace VV
open PySem PySem.Spec PyProof.Rows L2
inductive MV where
  | int (i : Int) | txs (l : List Str)
def MV.d : MV → D
  | .int i => .int i
  | .txs l => .ktx l
def ktxB (K : PySem.W.Frag) (a : Addr) (l : List Str) : Bool := match K.lookup a with
  | some ⟨.type c, _, .seq its _, _⟩ => decide (c = "tuple") && (decide (its.size ≤ sizeLine) && He.relAll (l.map V.str) its.toList)
  | _ => false
def MV.is (K : PySem.W.Frag) : MV → Value → Bool
  | .int i, .int j _ => decide (i = j)
  | .txs l, .ref a => ktxB K a l
  | _, _ => false
section
variable {X : Cx} {LL : List Nat} {Γ : List Kd} {pos p apos cpos : Pos} {e : Expr} {se : Ev} {me : Md} {x : Str} {ps : List (Str × MV)}
end
end VV

/-! ## VHeadW -/
/-! a head that tells the module's dicts: their keys' hashes hang on the world -/
namespace VV
open PySem PySem.Spec PyProof.Rows L2 He
def esB (K : PySem.W.Frag) : List (Str × MV) → List DictEntry → Bool
  | [], [] => true
  | p :: ps, e :: es => (match e.key with | .str s _ => decide (s = p.1) | _ => false) && (p.2.is K e.val && esB K ps es)
  | _, _ => false
def dicB (K : PySem.W.Frag) (x : Str) (ps : List (Str × MV)) : Bool := match K.lookup (ga K x) with
  | some ⟨.type c, none, .dict es _, sl⟩ => (decide (c = "dict") && sl.isEmpty) && (esB K ps es.toList && decide ((ps.map (·.1)).Nodup))
  | _ => false
def dicH (K : PySem.W.Frag) (x : Str) : List Int := match K.lookup (ga K x) with
  | some ⟨_, _, .dict es _, _⟩ => es.toList.map (·.hash)
  | _ => []
def dicsB (ds : List (Str × List (Str × MV))) (ck : PySem.W.Frag → Bool) (K : PySem.W.Frag) : Bool := ck K && ds.all fun p => (Fa.glo p.1).ok K && (dicB K p.1 p.2 && decide ((ga K p.1 == sysModules) = false))
def dicsV (ds : List (Str × List (Str × MV))) (w : World) : List (List Int) := ds.map fun p => p.2.map fun q => keyH w (.inr q.1)
abbrev AlW : Type := AlD × List (List Int)
def obsW (ds : List (Str × List (Str × MV))) (ck : PySem.W.Frag → Bool) (fa : List Fa) (fn : List DefD) (K : PySem.W.Frag) : AlW := (obsV (dicsB ds ck) fa fn K, ds.map fun p => dicH K p.1)
def SaysW (w : World) (ds : List (Str × List (Str × MV))) (ck : PySem.W.Frag → Bool) (fa : List Fa) (fn : List DefD) (K : PySem.W.Frag) : Prop := obsW ds ck fa fn K = (valD fn, dicsV ds w)
theorem SaysW.v {w : World} {ds : List (Str × List (Str × MV))} {ck : PySem.W.Frag → Bool} {fa : List Fa} {fn : List DefD} {K : PySem.W.Frag} (c : SaysW w ds ck fa fn K) : SaysV (dicsB ds ck) fa fn K ∧ (ds.map fun p => dicH K p.1) = dicsV ds w := ⟨congrArg Prod.fst c, congrArg Prod.snd c⟩
section
variable {P : Program} {w : World} {K : PySem.W.Frag} {h : Heap} {mg : Str → Option Value} {ds : List (Str × List (Str × MV))} {ck : PySem.W.Frag → Bool}
end
end VV

/-! ## VHeadR -/
/-! the head's run in three parts, each by itself -/
namespace HandSHeadRun
open PySem PySem.W PySem.Calls PyProof.Rows
end HandSHeadRun

/-! ## VZipT -/
/-! zip(a tuple of the module, a list); [f(x, y) for x, y in zip(g(..), l)], g and f may raise -/
namespace VV
open PySem PySem.Spec PyProof.Rows L2

/-! ### what is walked may raise -/
section
variable {X : Cx} {W : L2.WX} {LL : List Nat} {Γ Γ1 : List Kd} {pos p tpos : Pos}
end
end VV

/-! ## VDeskA -/
/-! methods that may raise; a desk read; a store that is never come to -/
namespace VV
open PySem PySem.Spec PyProof.Rows L2
section
variable {X : Cx} {CX : CXT} {k : Nat} {f C : Addr} {fd : FuncData} {ps : List Str} {sp : Sp} {E : L2.St → XK} {m : Str} {pos apos : Pos} {e o : Expr} {es : List Expr} {ta : TE} {t : TA}
end
section
variable {X : Cx} {W : L2.WX} {LL : List Nat} {Γ : List Kd} {pos apos : Pos} {k : Nat} {ps : List Str} {sem : List D → Option Res} {R : Rm} {c m : Str}
end
section
variable {X : Cx} {W : L2.WX} {sc : Sc} {Γ Γ' : List Kd} {pos pos' : Pos}
end
end VV

/-! ## VDeskB -/
/-! methods that change a desk: the spec, statements that tell the desk's state, calls -/
namespace VV
open PySem PySem.Spec PyProof.Rows L2
/-! ### behind a call that changes the dict at b alone -/
structure Aft (mg : Mg) (H H' : Hp) (a b : Addr) (F fp : List Addr) (d1 : D) : Prop where
  keep : ∀ x o, x ≠ b → H x = some o → H' x = some o
  mu : Mut (H' b)
  at_ : ∃ F', DkAt mg H' d1 a b F' ∧ a ∉ F' ∧ b ∉ F' ∧ ∀ x ∈ F', x ∈ F ∨ x ∈ fp ∨ New H H' x
/-! ### what a body comes to, with the state -/
inductive OutM where
  | nx (ρ : List D) | rt (d : D) (ρ : List D) | ex (c : Str) (ρ : List D)
structure ScM where
  LL : List Nat
  Γr : List Kd
  Γx : List Kd
def ScM.sc (s : ScM) : Sc := ⟨s.LL, .flat, [], s.Γx⟩
def WantM (X : Cx) (W : L2.WX) (sc : ScM) (P : Fm) (Γ' : List Kd) (g : Addr → Nat) (H : Hp) (D : Ends) : OutM → Prop
  | .nx ρ' => ∀ g' σ' H', Step sc.LL g H g' H' → Sta X.vm P sc.LL Γ' g' ρ' σ' H' → D.nx σ' H'
  | .rt d ρ' => ∀ v g' σ' H', Step sc.LL g H g' H' → Sta X.vm P sc.LL sc.Γr g' ρ' σ' H' → Rep X.vm H' d v [] → D.rt v H'
  | .ex c ρ' => ∀ C g' σ' H', X.mg c = some (.ref C) → Step sc.LL g H g' H' → Sta X.vm P sc.LL sc.Γx g' ρ' σ' H' → W (.ref C) none σ' H'
theorem WantM.from {X : Cx} {W : L2.WX} {sc : ScM} {P : Fm} {Γ' : List Kd} {g g1 : Addr → Nat} {H H1 : Hp} {D : Ends} {o : OutM} (h : WantM X W sc P Γ' g H D o) (s : Step sc.LL g H g1 H1) : WantM X W sc P Γ' g1 H1 D o := by
  cases o with
  | nx ρ' => exact fun g' σ' H' s' st => h g' σ' H' (s.trans s') st
  | rt d ρ' => exact fun v g' σ' H' s' st r => h v g' σ' H' (s.trans s') st r
  | ex c ρ' => exact fun C g' σ' H' m s' st => h C g' σ' H' m (s.trans s') st
section
variable {X : Cx} {W : L2.WX} {sc : ScM} {Γ Γ' Γ1 : List Kd} {pos : Pos}
end
/-! ### one dict is changed by a callee -/
section
variable {mg : Mg} {P : Fm} {LL : List Nat} {Γ : List Kd} {g : Addr → Nat} {ρ : List D} {σ : L2.St} {H H' : Hp} {b : Addr} {l c : Nat}
/-- all but b stay; it is written -/
structure One (H H' : Hp) (b : Addr) : Prop where
  keep : ∀ x o, x ≠ b → H x = some o → H' x = some o
  mb : Mut (H b)
  mb' : Mut (H' b)
theorem mut_tup {o : Option HO} {xs : List V} (h : Mut o) (e : o = some (.tup xs)) : False := by subst e; exact h
theorem mut_frz {o : Option HO} {ob : Obj} {u : HO} (h : Mut o) (e : o = some (.frz ob u)) : False := by subst e; exact h
end
end VV

/-! ## VDeskC -/
/-! a desk made, asked by a method that changes it, a store into it; tests with such calls; defs of this kind -/
namespace VV
open PySem PySem.Spec PyProof.Rows L2
section
variable {X : Cx} {W : L2.WX} {LL : List Nat} {Γ : List Kd} {pos apos px : Pos} {k : Nat} {ps : List Str} {sem : List D → Option (Res × D)} {c m : Str}
/-! ### tests -/
variable {Γ' Γ1 : List Kd}
end
section
variable {X : Cx} {W : L2.WX} {sc : Sc} {Γ Γ' Γ1 Γ2 : List Kd} {pos px : Pos}
end
end VV

/-! ## VDeskD -/
/-! self.kept[k] = v; defs that change their desk; C() without arguments; a call that is never come to -/
namespace VV
open PySem PySem.Spec PyProof.Rows L2
section
variable {X : Cx} {W : L2.WX} {sc : Sc} {Γ : List Kd} {pos : Pos}
end
/-! ### defs that change their desk -/
section
variable {P : Program} {w : World} {K : PySem.W.Frag} {mg : Str → Option Value} {base : Heap} {x qual : Str} {params : Arguments} {body : List Stmt} {scope : Scope} {f : Addr} {fd : FuncData}
end
section
variable {X : Cx} {W : L2.WX} {LL : List Nat} {Γ : List Kd} {pos p : Pos} {k : Nat} {ps : List Str}
end
end VV

/-! ## VDeskE -/
/-! the desk's dicts; what is never come to -/
namespace VV
open PySem PySem.Spec PyProof.Rows L2
end VV

/-! ## VLcH -/
/-! x = [.. for .. in a list if ..] while an exception is handled -/
namespace VV
open PySem PySem.Spec PyProof.Rows L2 HotX
structure TurnP (P : Program) (w : World) (K : PySem.W.Frag) (tg : Expr) (J : It) (fp : List Addr) (it : Addr) (tn : Nat → Heap → Prop) : Prop where
  mem : it ∈ fp
  obj : ∀ i h, tn i h → ∀ b ∈ fp, ∃ o, h.get? b = some o ∧ ∀ v, o.data ≠ .cell v
  keep : ∀ i h h', tn i h → (∀ b ∈ fp, ∀ o, h.get? b = some o → h'.get? b = some o) → tn i h'
  item : ∀ (X : Cx), X.prog = P → X.w = w → X.K = K → ∀ (i : Nat) (pins : List (Addr × Obj)) (s : Shared) (σ : L2.St) (H : Hp) (E : Value → Shared → Prop), Inv X pins σ H s → (∀ b ∈ fp, FpOk X pins H b) → tn i s.heap → J.go i H →
    wpAny (model P w) X.A (pyNext (.ref it)) (fun r s1 => ∃ u, r = some u ∧
      wpAny (model P w) X.A (letOwnedTupleGo tg (.ref it) u) (fun _ s2 => ∃ x H', Inv X pins σ H' s2 ∧ RelV x u ∧ J.yld i H x H' ∧ tn (i + 1) s2.heap ∧ ∀ b ∈ fp, H' b = none) E s1) E s
  done : ∀ (X : Cx), X.prog = P → X.w = w → X.K = K → ∀ (i : Nat) (pins : List (Addr × Obj)) (s : Shared) (σ : L2.St) (H : Hp) (E : Value → Shared → Prop), Inv X pins σ H s → (∀ b ∈ fp, FpOk X pins H b) → tn i s.heap → J.stop i H → (∃ x1, HotAt X.A x1 s.heap ∧ ∀ b ∈ fp, x1 ≠ b) →
    wpAny (model P w) X.A (pyNext (.ref it)) (fun r s1 => r = none ∧ Inv X pins σ H s1) E s
  self : ∀ (A : Around) (i : Nat) (s : Shared) (Q : Value → Shared → Prop) (E : Value → Shared → Prop), tn i s.heap → Q (.ref it) s → wpAny (model P w) A (pyIter (.ref it)) Q E s
def PIEP (X : Cx) (pins : List (Addr × Obj)) (σ : L2.St) (tg : Expr) (R : It → Hp → Prop) (itv : Value) (s2 : Shared) : Prop :=
  ∃ (it : Addr) (fp : List Addr) (tn : Nat → Heap → Prop) (J : It) (H' : Hp), itv = .ref it ∧ Inv X pins σ H' s2 ∧ TurnP X.prog X.w X.K tg J fp it tn ∧ tn 0 s2.heap ∧ (∀ b ∈ fp, FpOk X pins H' b) ∧ R J H'
structure PIP (X : Cx) (tg iter : Expr) (wi : TI) : Prop where
  run : ∀ (pins : List (Addr × Obj)) (s : Shared) (σ : L2.St) (H : Hp) (R : It → Hp → Prop), Inv X pins σ H s → wi σ H R →
    wpAny (model X.prog X.w) X.A (eval iter X.env) (fun v s1 => wpAny (model X.prog X.w) X.A (pyIter v) (PIEP X pins σ tg R) X.xe s1) X.xe s
section
variable {X : Cx}
end
section
variable {X : Cx} {W : L2.WX} {LL : List Nat} {Γ Γ1 : List Kd} {pos : Pos}
end
end VV

/-! ## VParT -/
/-! a, b = x, y: two local names, things -/
namespace VV
open PySem PySem.Spec PyProof.Rows L2
section
variable {X : Cx} {W : L2.WX} {sc : Sc} {Γ : List Kd} {pos : Pos}
end
end VV

/-! ## VLcS -/
/-! x = [f(..) for .. in ..] on one line, f may raise -/
namespace VV
open PySem PySem.Spec PyProof.Rows L2
section
variable {M : Model} {A : Around} {E : Value → Shared → Prop} {s : Shared} {env : Env}
end
section
variable {X : Cx} {W : L2.WX}
end
section
variable {X : Cx} {W : L2.WX} {Γ Γ1 : List Kd} {pos : Pos}
end
end VV

/-! ## VExcH -/
/-! defs of the exception that is handled, which are told so -/
namespace VV
open PySem PySem.Spec PyProof.Rows L2
section
variable {P : Program} {w : World} {K : PySem.W.Frag} {mg : Str → Option Value} {base : Heap} {x qual px : Str} {params : Arguments} {body : List Stmt} {scope : Scope} {f : Addr} {fd : FuncData} {L : List Str}
end
section
variable {X : Cx} {L : List Str} {LL : List Nat} {Γ : List Kd} {a : Addr} {oe : Obj} {c : Str} {C : Addr} {pos p tp : Pos}
end
end VV

/-! ## VDeskF -/
/-! a name set to what a call tells that may change a desk; try, in a def that changes a desk -/
namespace VV
open PySem PySem.Spec PyProof.Rows L2
section
variable {X : Cx} {W : L2.WX} {Γ Γ' Γ1 Γ2 : List Kd} {pos pos' np : Pos} {L : List Str}
end
end VV

/-! ## VStrA -/
/-! str(x) of a whole number or a text -/
namespace VV
open PySem PySem.Spec PyProof.Rows L2
section
variable {X : Cx}
end
end VV

/-! ## VDeskG -/
/-! a def of the module that is handed a desk, and changes it -/
namespace VV
open PySem PySem.Spec PyProof.Rows L2
section
variable {X : Cx} {LL : List Nat} {Γ : List Kd} {pos p px : Pos} {k : Nat} {ps : List Str} {sem : List D → Option (Res × D)} {x : Str}
end
section
variable {X : Cx} {W : L2.WX} {sc : Sc} {Γ Γ' : List Kd} {pos : Pos}
end
end VV

/-! ## VShort -/
/-! rules said shorter: what is told by evaluation is found where the rule is used -/
namespace VV
open PySem PySem.Spec PyProof.Rows L2
section
variable {X : Cx} {LL : List Nat} {Γ Γ' : List Kd} {W : L2.WX} {sc : Sc} {pos : Pos} {x : Str}
theorem xs {e : Expr} {se : Ev} {m : Md} {pos' : Pos} (i n k : Nat) (hN : X.N.Nodup) (he : EX X sc.LL Γ e se m) (hi : X.N[i]? = some x := by rfl) (hx : L2.Loc X.env.scope x := by first | exact Or.inl rfl | exact Or.inr rfl)
    (hs : swapsWith e (some (.Name x pos')) pos.line X.env = pure false := by rfl) (hf : X.fn x = true ∨ X.env.scope.names.lookup x = some .local := by first | exact .inl rfl | exact .inr rfl | assumption)
    (h1 : n ≠ 0 := by decide) (h2 : k ≠ 0 := by decide) : SX X W sc Γ (.Assign [.Name x pos'] e pos) (sSet i se) (Γ.set i (m.kind n k)) := sx_set n k hN hi hx he hs hf h1 h2
end
end VV

/-! ## VPair -/
/-! a list of two things, each of its own kind: two desks, two dicts -/
namespace VV
open PySem PySem.Spec PyProof.Rows L2
/-! ### trees whose nodes are lists -/
/-! ### the parts of a pair -/
section
variable {mg : Mg} {P : Fm} {LL : List Nat} {Γ : List Kd} {g : Addr → Nat} {ρ : List D} {σ : L2.St} {H H' : Hp}
end
/-! ### a pair read -/
section
variable {X : Cx} {LL : List Nat} {Γ : List Kd} {pos : Pos}
end
/-! ### arguments, one of them a dict of a pair: the dict itself is not handed back -/
section
variable {X : Cx} {LL : List Nat} {Γ : List Kd} {pos p : Pos}
end
/-! ### a desk of a pair is told something -/
section
variable {mg : Mg} {P : Fm} {LL : List Nat} {Γ : List Kd} {g : Addr → Nat} {ρ : List D} {σ : L2.St} {H H2 : Hp}
/-- what a call on one of two desks needs, and what stands behind it -/
def prNums (LL : List Nat) (mm : Md) (p c n1 l1 n2 l2 : Nat) (L1 L2 : List Nat) : Prop :=
  ((l1 ≠ 0 ∧ c ≠ 0 ∧ n1 ≠ l1) ∧ (l1 ∉ LL ∧ n1 ∉ L1 ∧ l1 ∉ L1) ∧ n1 ∉ mm.labs ∧ l1 ∉ mm.labs) ∧ ((l2 ≠ 0 ∧ c ≠ 0 ∧ n2 ≠ l2) ∧ (l2 ∉ LL ∧ n2 ∉ L2 ∧ l2 ∉ L2) ∧ n2 ∉ mm.labs ∧ l2 ∉ mm.labs) ∧ (p ≠ l1 ∧ p ≠ l2) ∧ (Kd.dk false n2 l2 L2).has l1 = false ∧ (Kd.dk false n1 l1 L1).has l2 = false
instance {LL : List Nat} {mm : Md} {p c n1 l1 n2 l2 : Nat} {L1 L2 : List Nat} : Decidable (prNums LL mm p c n1 l1 n2 l2 L1 L2) := by unfold prNums; infer_instance
end
section
variable {X : Cx} {LL : List Nat} {Γ : List Kd} {pos p px ip : Pos} {k : Nat} {ps : List Str} {sem : List D → Option (Res × D)} {x : Str}
end
/-! ### one of two dicts gets a value -/
section
variable {mg : Mg} {P : Fm} {LL : List Nat} {Γ : List Kd} {g : Addr → Nat} {ρ : List D} {σ : L2.St} {H H3 : Hp}
end
section
variable {X : Cx} {W : L2.WX} {sc : Sc} {Γ : List Kd} {pos : Pos}
end
/-! ### two new desks, two new dicts -/
section
variable {X : Cx} {W : L2.WX} {sc : Sc} {Γ : List Kd} {pos : Pos}
theorem old_relF {P : Fm} {g f : Addr → Nat} {H H' : Hp} {a : Addr} {n : Nat} (h : New H H' a) (e : f a = n) (hn : n ≠ 0) : Old P (relF g H H' f) [n] a :=
  ⟨by rw [relF_new h, e]; exact List.mem_singleton.mpr rfl, fun z => by rw [relF_new h, e] at z; exact absurd z hn⟩
end
end VV

/-! ## VSortS -/
/-! sorted(d) of a dict whose keys are texts; a method that raises, told by a desk: what it tells has no dict -/
namespace VV
open PySem PySem.Spec PyProof.Rows L2
section
variable {X : Cx} {LL : List Nat} {Γ : List Kd} {pos p : Pos} {a b : Expr} {sa sb : Ev} {ma mb : Md}
end
/-! ### a desk's method hands on one of its drawings -/
section
variable {X : Cx} {W : L2.WX} {LL : List Nat} {Γ : List Kd} {pos apos px : Pos} {k : Nat} {ps : List Str} {sem : List D → Option Res} {c m : Str}
end
end VV

/-! ## VOwnA -/
/-! procedures that change what they are handed: a tree of its own; their bodies, calls of them -/
namespace VV
open PySem PySem.Spec PyProof.Rows L2
/-! ### what a procedure is handed, and what stands behind it -/
structure AftO (mg : Mg) (H H' : Hp) (a : Addr) (f : List Addr) (d1 : D) (f1 : List Addr) : Prop where
  keep : ∀ x o, x ∉ a :: f → H x = some o → H' x = some o
  th : ∀ x, H x ≠ none → H' x ≠ none
  rep : Rep mg H' d1 (.ref a) (a :: f1)
  nd : (a :: f1).Nodup
  mu : ∀ x ∈ a :: f1, Mut (H' x)
  fr : ∀ x ∈ f1, x ∈ f ∨ H x = none
def spO (mg : Mg) (sem : List D → Option D) (n : Nat) : Sp := fun vs H Q E => vs.length = n ∧ ∃ (d0 : D) (ds : List D) (a : Addr) (f : List Addr) (ws : List V), vs = .ref a :: ws ∧ Rep mg H d0 (.ref a) (a :: f) ∧ (a :: f).Nodup ∧ (∀ x ∈ a :: f, Mut (H x)) ∧ RepL mg H ds ws [] ∧
  ∃ d1, sem (d0 :: ds) = some d1 ∧ ∀ H' f1, AftO mg H H' a f d1 f1 → Q .non H'
/-! ### what a body comes to -/
inductive OutO where
  | nx (ρ : List D) | ct (ρ : List D) | rt (ρ : List D)
structure ScO where
  LL : List Nat
  Γc : List Kd
  Γr : List Kd
def ScO.sc (s : ScO) : Sc := ⟨s.LL, .flat, s.Γc, []⟩
def WantO (X : Cx) (sc : ScO) (P : Fm) (Γ' : List Kd) (g : Addr → Nat) (H : Hp) (D : Ends) : OutO → Prop
  | .nx ρ' => ∀ g' σ' H', Step sc.LL g H g' H' → Sta X.vm P sc.LL Γ' g' ρ' σ' H' → D.nx σ' H'
  | .ct ρ' => ∀ g' σ' H', Step sc.LL g H g' H' → Sta X.vm P sc.LL sc.Γc g' ρ' σ' H' → D.ct σ' H'
  | .rt ρ' => ∀ g' σ' H', Step sc.LL g H g' H' → Sta X.vm P sc.LL sc.Γr g' ρ' σ' H' → D.rt .non H'
theorem WantO.from {X : Cx} {sc : ScO} {P : Fm} {Γ' : List Kd} {g g1 : Addr → Nat} {H H1 : Hp} {D : Ends} {o : OutO} (h : WantO X sc P Γ' g H D o) (s : Step sc.LL g H g1 H1) : WantO X sc P Γ' g1 H1 D o := by
  cases o with
  | nx ρ' => exact fun g' σ' H' s' st => h g' σ' H' (s.trans s') st
  | ct ρ' => exact fun g' σ' H' s' st => h g' σ' H' (s.trans s') st
  | rt ρ' => exact fun g' σ' H' s' st => h g' σ' H' (s.trans s') st
abbrev Svo := List D → Option OutO
def SO (X : Cx) (W : L2.WX) (sc : ScO) (Γ : List Kd) (st : List Stmt) (sem : Svo) (Γ' : List Kd) : Prop :=
  ∃ t, PSs X st t ∧ ∀ P g ρ σ H o D, Sta X.vm P sc.LL Γ g ρ σ H → sem ρ = some o → WantO X sc P Γ' g H D o → t D σ H
def oNil : Svo := fun ρ => some (.nx ρ)
def oRet : Svo := fun ρ => some (.rt ρ)
def oCt : Svo := fun ρ => some (.ct ρ)
def oSeq (a : Sv) (b : Svo) : Svo := fun ρ => match a ρ with
  | some (.nx ρ') => b ρ'
  | _ => none
def oIf (c : List D → Option Bool) (a b : Svo) : Svo := fun ρ => match c ρ with
  | some true => (match a ρ with | some (.nx _) => none | o => o)
  | some false => b ρ
  | none => none
def whileO (c : List D → Option Bool) (b : Svo) : Nat → List D → Option OutO
  | 0, _ => none
  | k + 1, ρ => match c ρ with
    | none => none
    | some false => some (.nx ρ)
    | some true => match b ρ with
      | some (.nx ρ2) => whileO c b k ρ2
      | some (.ct ρ2) => whileO c b k ρ2
      | o => o
def oWhile (c : List D → Option Bool) (b : Svo) : Svo := fun ρ => whileO c b fuel ρ
def forO (t : Tv) (b : Svo) : List D → List D → Option OutO
  | [], ρ => some (.nx ρ)
  | x :: xs, ρ => match t x ρ with
    | none => none
    | some ρ1 => match b ρ1 with
      | some (.nx ρ2) => forO t b xs ρ2
      | some (.ct ρ2) => forO t b xs ρ2
      | o => o
def oFor (it : List D → Option (List D)) (t : Tv) (b : Svo) : Svo := fun ρ => (it ρ).bind fun l => forO t b l ρ
section
variable {X : Cx} {W : L2.WX} {sc : ScO} {Γ Γ' Γ1 Γ2 : List Kd} {pos : Pos}
theorem so_retM (m : List (Nat × Nat)) (hm : mapOk sc.LL m = true) (hk : kdsLe m Γ sc.Γr = true) : SO X W sc Γ [.Return none pos] oRet Γ' := ⟨_, pss_one ps_retN, fun P g ρ σ H o D s e w => by cases e; exact w _ σ H (.re hm) (s.re hm hk)⟩
theorem so_ct (m : List (Nat × Nat)) (hm : mapOk sc.LL m = true) (hk : kdsLe m Γ sc.Γc = true) : SO X W sc Γ [.Continue pos] oCt Γ' := ⟨_, pss_one ps_continue, fun P g ρ σ H o D s e w => by cases e; exact w _ σ H (.re hm) (s.re hm hk)⟩
theorem so_end (m : List (Nat × Nat)) (hm : mapOk sc.LL m = true) (hk : kdsLe m Γ Γ' = true) : SO X W sc Γ [] oNil Γ' := ⟨_, pss_nil, fun P g ρ σ H o D s e w => by cases e; exact w _ σ H (.re hm) (s.re hm hk)⟩
theorem so_seq {st : Stmt} {rest : List Stmt} {a : Sv} {b : Svo} (h : SX X W sc.sc Γ st a Γ1) (h' : SO X W sc Γ1 rest b Γ') : SO X W sc Γ (st :: rest) (oSeq a b) Γ' := by
  obtain ⟨t, p, k⟩ := h
  obtain ⟨u, p', k'⟩ := h'
  refine ⟨_, pss_cons p p', fun P g ρ σ H o D s e w => ?_⟩
  unfold oSeq at e
  cases ea : a ρ with
  | none => rw [ea] at e; cases e
  | some o1 =>
    rw [ea] at e
    cases o1 with
    | nx ρ' => exact k P g ρ σ H _ { D with nx := u D } s ea fun g' σ' H' s' st => k' P g' ρ' σ' H' o D st e (w.from s')
    | ct ρ' => cases e
    | rt d => cases e
    | ex c ρ' => cases e
theorem so_if {c : Expr} {a rest : List Stmt} {s : List D → Option Bool} {sa sb : Svo} (hc : ET X sc.LL Γ c s) (ha : SO X W sc Γ a sa Γ2) (hb : SO X W sc Γ rest sb Γ') : SO X W sc Γ (.If c a [] pos :: rest) (oIf s sa sb) Γ' := by
  obtain ⟨t, p, k⟩ := hc
  obtain ⟨ta, pa, ka⟩ := ha
  obtain ⟨tb, pb, kb⟩ := hb
  refine ⟨_, pss_cons (ps_if p pa pss_nil) pb, fun P g ρ σ H o D st e w => ?_⟩
  unfold oIf at e
  cases ec : s ρ with
  | none => rw [ec] at e; cases e
  | some c' =>
    rw [ec] at e
    refine k P g ρ σ H c' _ st ec fun H' x => ?_
    cases c' with
    | true =>
      refine iteT ?_
      dsimp only at e
      cases ea : sa ρ with
      | none => rw [ea] at e; cases e
      | some o1 =>
        rw [ea] at e
        refine ka P g ρ σ H' o1 { D with nx := tb D } (st.ext x) ea ?_
        cases o1 with
        | nx ρ' => cases e
        | ct ρ' => cases e; exact w.from (.ext x)
        | rt ρ' => cases e; exact w.from (.ext x)
    | false => exact iteF (kb P g ρ σ H' o D (st.ext x) e (w.from (.ext x)))
theorem so_while {c : Expr} {body : List Stmt} {s : List D → Option Bool} {sb : Svo} (hp : PassesOwn (model X.prog X.w) X.A X.env X.xe) (hc : ET X sc.LL Γ c s) (hb : SO X W { sc with Γc := Γ } Γ body sb Γ) : SO X W sc Γ [.While c body [] pos] (oWhile s sb) Γ := by
  obtain ⟨tc, pc, kc⟩ := hc
  obtain ⟨tb, pb, kb⟩ := hb
  refine ⟨_, pss_one (ps_while hp pc pb), fun P g ρ σ H o De st e w => ?_⟩
  refine ⟨fun m σ' H' => ∃ ρ' g', whileO s sb m ρ' = some o ∧ Sta X.vm P sc.LL Γ g' ρ' σ' H' ∧ Step sc.LL g H g' H', ⟨fuel, ρ, g, e, st, .refl⟩, ?_⟩
  rintro m σ2 H2 ⟨ρ2, g2, e2, s2, st2⟩
  cases m with
  | zero => cases e2
  | succ k =>
    unfold whileO at e2
    cases h : s ρ2 with
    | none => rw [h] at e2; cases e2
    | some b =>
      rw [h] at e2
      refine kc P g2 ρ2 σ2 H2 b _ s2 h fun H3 x3 => ?_
      cases b with
      | false =>
        cases e2
        exact iteF (w g2 σ2 H3 (st2.trans (.ext x3)) (s2.ext x3))
      | true =>
        dsimp only at e2
        refine iteT ⟨fun σ' H' => ∃ m', m' < k + 1 ∧ ∃ ρ' g', whileO s sb m' ρ' = some o ∧ Sta X.vm P sc.LL Γ g' ρ' σ' H' ∧ Step sc.LL g H g' H', fun σ' H' h => h, ?_⟩
        cases eb : sb ρ2 with
        | none => rw [eb] at e2; cases e2
        | some o3 =>
          rw [eb] at e2
          refine kb P g2 ρ2 σ2 H3 o3 _ (s2.ext x3) eb ?_
          have st3 : Step sc.LL g H g2 H3 := st2.trans (.ext x3)
          cases o3 with
          | nx ρ5 => exact fun g5 σ5 H5 st5 s5 => ⟨k, Nat.lt_succ_self k, ρ5, g5, e2, s5, st3.trans st5⟩
          | ct ρ5 => exact fun g5 σ5 H5 st5 s5 => ⟨k, Nat.lt_succ_self k, ρ5, g5, e2, s5, st3.trans st5⟩
          | rt ρ5 => cases e2; exact fun g' σ' H' s' l => w g' σ' H' (st3.trans s') l
/-- for x in range(..): the items are flat -/
theorem so_for {iter tg : Expr} {body : List Stmt} {si : List D → Option (List D)} {t : Tv} {sb : Svo} {S : List Nat} (n : Nat) (hc : X.calm = true) (hp : PassesOwn (model X.prog X.w) X.A X.env X.xe)
    (hi : EI X sc.LL Γ tg iter si [] .flat) (hg : EG X Γ tg .flat t Γ1 S) (hb : SO X W { sc with LL := n :: sc.LL, Γc := Γ } Γ1 body sb Γ)
    (hs : ∀ x, foldedSetIterable iter X.env x = pure x := by intro _; rfl) (hn : n ≠ 0 := by decide) : SO X W sc Γ [.For tg iter body [] pos] (oFor si t sb) Γ := by
  obtain ⟨wi, pi, ki⟩ := hi
  obtain ⟨tgt, pg, kg⟩ := hg
  obtain ⟨tb, pb, kb⟩ := hb
  refine ⟨_, pss_one (ps_for hp hc pi pg pb hs), fun P g ρ σ H o De s e w => ?_⟩
  obtain ⟨ds, e1, e⟩ := Option.bind_eq_some_iff.mp e
  refine ki P g ρ σ H ds _ s e1 fun J H1 x1 _ it => ?_
  obtain ⟨fpI, lb, walk⟩ := it
  have s1 : Sta X.vm P sc.LL Γ (relab g H H1 .non n n) ρ σ H1 := s.relab x1
  have st1 : Step sc.LL g H (relab g H H1 .non n n) H1 := .relab x1
  have subL : ∀ k ∈ sc.LL, k ∈ n :: sc.LL := fun k hk => List.mem_cons_of_mem _ hk
  have lkI : ∀ a ∈ fpI, lk (n :: sc.LL) (relab g H H1 .non n n a) := fun a ha => by
    rcases lb a ha with y | y
    · rw [relab_new y]; right; split <;> exact List.mem_cons_self
    · exact nomatch y.1
  generalize hg1 : relab g H H1 .non n n = g1 at s1 st1 lkI
  refine ⟨fun i m σ' H' => m = ds.length - i ∧ i ≤ ds.length ∧ ∃ ρ' g', forO t sb (ds.drop i) ρ' = some o ∧ Sta X.vm P (n :: sc.LL) Γ g' ρ' σ' H' ∧ Step (n :: sc.LL) g1 H1 g' H',
    ⟨ds.length, rfl, Nat.zero_le _, ρ, g1, by rw [List.drop_zero]; exact e, ⟨s1.loc.up subL, s1.cells⟩, .refl⟩, ?_⟩
  rintro i m σ2 H2 ⟨rfl, hil, ρ2, g2, e2, s2, st2⟩
  have kept : Kept H1 H2 fpI := ⟨fun a ha u r => st2.kp a (lkI a ha) u r, st2.kpT (s1.loc.up subL)⟩
  obtain ⟨wk, wstop⟩ := walk H2 kept
  have back : ∀ {Γ3 : List Kd} {ρ3 : List D} {σ3 : L2.St} {g3 : Addr → Nat} {H3 : Hp}, Step (n :: sc.LL) g1 H1 g3 H3 → Sta X.vm P (n :: sc.LL) Γ3 g3 ρ3 σ3 H3 → Step sc.LL g H g3 H3 ∧ Sta X.vm P sc.LL Γ3 g3 ρ3 σ3 H3 := fun st3 s3 =>
    have h := st1.trans (st3.sub subL)
    ⟨h, s3.loc.down s.loc h, s3.cells⟩
  by_cases hi' : i < ds.length
  · refine .inr ?_
    obtain ⟨go, yl⟩ := wk i ds[i] (List.getElem?_eq_getElem hi')
    rw [List.drop_eq_getElem_cons hi'] at e2
    unfold forO at e2
    cases et : t ds[i] ρ2 with
    | none => rw [et] at e2; cases e2
    | some ρ3 =>
      rw [et] at e2
      dsimp only at e2
      refine ⟨go, fun σ' H' => ∃ m', m' < ds.length - i ∧ (m' = ds.length - (i + 1) ∧ i + 1 ≤ ds.length ∧ ∃ ρ' g', forO t sb (ds.drop (i + 1)) ρ' = some o ∧ Sta X.vm P (n :: sc.LL) Γ g' ρ' σ' H' ∧ Step (n :: sc.LL) g1 H1 g' H'), fun σ' H' h => h, fun x H3 y => ?_⟩
      obtain ⟨x3, f, r, of, sub⟩ := yl x H3 y
      have s3 := s2.ext x3
      have f0 : f = [] := of
      subst f0
      have cell : CellOk X.vm P g2 H3 .flat ds[i] (some x) := ⟨x, rfl, r⟩
      refine kg P _ g2 ρ2 σ2 H3 ds[i] x ρ3 _ s3 cell et fun σ4 s4 _ => ?_
      have st3 : Step (n :: sc.LL) g1 H1 g2 H3 := st2.trans (.ext x3)
      have again : ∀ {ρ5 : List D} {σ5 : L2.St} {g5 : Addr → Nat} {H5 : Hp}, forO t sb (ds.drop (i + 1)) ρ5 = some o → Step (n :: sc.LL) g2 H3 g5 H5 → Sta X.vm P (n :: sc.LL) Γ g5 ρ5 σ5 H5 →
          ∃ m', m' < ds.length - i ∧ (m' = ds.length - (i + 1) ∧ i + 1 ≤ ds.length ∧ ∃ ρ' g', forO t sb (ds.drop (i + 1)) ρ' = some o ∧ Sta X.vm P (n :: sc.LL) Γ g' ρ' σ5 H5 ∧ Step (n :: sc.LL) g1 H1 g' H5) := fun {ρ5 σ5 g5 H5} e5 st5 s5 =>
        ⟨_, by omega, rfl, hi', ρ5, g5, e5, s5, st3.trans st5⟩
      cases eb : sb ρ3 with
      | none => rw [eb] at e2; cases e2
      | some o3 =>
        rw [eb] at e2
        refine kb P g2 ρ3 σ4 H3 o3 _ s4 eb ?_
        cases o3 with
        | nx ρ5 => exact fun g5 σ5 H5 st5 s5 => again e2 st5 s5
        | ct ρ5 => exact fun g5 σ5 H5 st5 s5 => again e2 st5 s5
        | rt ρ5 =>
          cases e2
          intro g5 σ5 H5 st5 s5
          obtain ⟨h1, h2⟩ := back (st3.trans st5) s5
          exact w g5 σ5 H5 h1 h2
  · have : i = ds.length := by omega
    subst this
    refine .inl ⟨wstop, ?_⟩
    rw [List.drop_length] at e2
    cases e2
    obtain ⟨h1, h2⟩ := back st2 s2
    exact w g2 σ2 H2 h1 h2
end
end VV

/-! ## VOwnB -/
/-! defs of this kind; a tree of its own that a callee changes -/
namespace VV
open PySem PySem.Spec PyProof.Rows L2
def semO (n : Nat) (pk : List Kd) (s : Svo) : List D → Option D := fun ds => match ds with
  | d0 :: r => if pkOk pk r then (match s (d0 :: (r ++ List.replicate (n - (r.length + 1)) .non)) with
    | some (.nx ρ) => ρ[0]?
    | some (.rt ρ) => ρ[0]?
    | _ => none) else none
  | [] => none
section
variable {P : Program} {w : World} {K : PySem.W.Frag} {mg : Str → Option Value} {base : Heap} {x qual : Str} {params : Arguments} {body : List Stmt} {scope : Scope} {f : Addr} {fd : FuncData}
theorem fn_okO {N ps : List Str} {k : Nat} {sc : ScO} {Γ' : List Kd} {s : Svo} {L Lr : List Nat} (F : FunD K x qual params body scope [] [] f fd) (S : FnScope N ps scope) (pk : List Kd) (hp : pk.length + 1 = ps.length) (hN : ps.length ≤ N.length) (hL : sc.LL = [])
    (hΓ : Γ'[0]? = some (.ow true 1 L)) (hΓr : sc.Γr[0]? = some (.ow true 1 Lr)) (h0 : 0 ∉ L ∧ 0 ∉ Lr)
    (hb : ∀ (cdv : Value) (A : Around) (outer : List Env) (s0 : Shared) (H : Hp) (E : XK), Room k (A.deeper (envOfC qual scope s0.heap.objs.size f cdv)) →
      SO (cxOf CX0 P w K mg base N qual scope f cdv A outer s0 H E).nox (fun _ _ _ _ => False) sc (.ow true 1 [2] :: (pk ++ List.replicate (N.length - (pk.length + 1)) .dead)) body s Γ') :
    FnOk P w K mg base CX0 (k + 1) f fd ps (spO ⟨mg, K⟩ (semO N.length pk s) ps.length) := by
  refine F.ok S (fun vs H Q E h => h.1) (fun cdv A outer s0 H vs Q E hr h => ?_)
  obtain ⟨hl, d0, ds, a, fa, ws, rfl, ra, nda, mua, r, d1, e, q⟩ := h
  obtain ⟨t, p, kk⟩ := hb cdv A outer s0 H E hr
  refine ⟨t, p.nox, ?_⟩
  have hpk : pkOk pk ds = true := by
    unfold semO at e; dsimp only at e; split at e; assumption; cases e
  have hsem : semO N.length pk s (d0 :: ds) = match s (d0 :: (ds ++ List.replicate (N.length - (ds.length + 1)) .non)) with
      | some (.nx ρ) => ρ[0]?
      | some (.rt ρ) => ρ[0]?
      | _ => none := if_pos hpk
  rw [hsem] at e
  have hlen := pkOk_len hpk
  have hvd := r.length
  obtain ⟨ha, hf⟩ := List.nodup_cons.mp nda
  obtain ⟨g, hgdef⟩ : ∃ g : Addr → Nat, g = fun y => if y = a then 1 else if y ∈ fa then 2 else 0 := ⟨_, rfl⟩
  have ga : g a = 1 := by rw [hgdef]; simp
  have gf : ∀ y ∈ fa, g y = 2 := fun y hy => by
    have : y ≠ a := fun z => ha (z ▸ hy)
    rw [hgdef]; simp [this, hy]
  have g0 : ∀ y, y ∉ a :: fa → g y = 0 := fun y hy => by
    have h1 : y ≠ a := fun z => hy (by simp [z])
    have h2 : y ∉ fa := fun z => hy (by simp [z])
    rw [hgdef]; simp [h1, h2]
  obtain ⟨Pm, hP⟩ : ∃ Pm : Fm, Pm = ⟨fun y => y = a, fun _ => False⟩ := ⟨_, rfl⟩
  have there : ∀ y ∈ a :: fa, H y ≠ none := fun y hy z => by have := mua y hy; rw [z] at this; exact this
  have st : Sta ⟨mg, K⟩ Pm sc.LL (.ow true 1 [2] :: (pk ++ List.replicate (N.length - (pk.length + 1)) .dead)) g (d0 :: (ds ++ List.replicate (N.length - (ds.length + 1)) .non)) (L2.start N (.ref a :: ws)) H := by
    rw [hL, hP]
    refine ⟨⟨fun y hy => ?_, fun y hy => ?_, fun y z => z.elim⟩, ?_⟩
    · by_cases h1 : y ∈ a :: fa
      · have := mua y h1
        cases qq : H y with
        | none => rw [qq] at this; exact this.elim
        | some o => rw [qq] at this; exact ⟨o, rfl, .inl this⟩
      · exact absurd (g0 y h1) hy
    · exact there _ (by rw [show y = a from hy]; exact List.mem_cons_self)
    · unfold L2.start
      rw [List.map_cons, List.length_cons, hvd, hlen]
      refine ⟨⟨a, fa, rfl, ra, nda, ⟨by simp [ga], fun _ => rfl⟩, fun y hy => ⟨by simp [gf y hy], fun z => by rw [gf y hy] at z; cases z⟩, fun _ => rfl⟩, ?_⟩
      exact cells_startG _ hpk r fun y hy => (nomatch hy)
  -- what stands at an end
  have fin : ∀ {g' : Addr → Nat} {σ' : L2.St} {H' : Hp} {ρ' : List D} {Γe : List Kd} {Le : List Nat} {z : D}, Step sc.LL g H g' H' → Sta ⟨mg, K⟩ Pm sc.LL Γe g' ρ' σ' H' → Γe[0]? = some (.ow true 1 Le) → 0 ∉ Le → ρ'[0]? = some z → ∃ f1, AftO ⟨mg, K⟩ H H' a fa z f1 := fun {g' σ' H' ρ' Γe Le z} s' sta hΓ h0 hz => by
    rw [hL] at s' sta
    obtain ⟨z', ov, e1, e2, a', f', _, rep, nd, o1, o2, o3⟩ := sta.cells.get hΓ
    rw [hz] at e1; cases e1
    have ea : a' = a := by
      have := o3 rfl
      rw [hP] at this
      exact this
    subst ea
    have lab : ∀ y ∈ a' :: f', g' y ≠ 0 := fun y hy => by
      rcases List.mem_cons.mp hy with rfl | hy
      · rw [List.mem_singleton.mp o1.1]; decide
      · exact fun z => h0 (z ▸ (o2 y hy).1)
    refine ⟨f', fun y o hy e => s'.kp y (.inl (g0 y hy)) o e, s'.th, rep, nd, fun y hy => ?_, fun y hy => ?_⟩
    · obtain ⟨o, q1, q2⟩ := sta.loc.at_ y (lab y hy)
      rcases q2 with q2 | q2
      · rw [q1]; exact q2
      · rw [hP] at q2; exact q2.elim
    · by_cases hy1 : y ∈ a' :: fa
      · rcases List.mem_cons.mp hy1 with rfl | h
        · exact absurd hy (List.nodup_cons.mp nd).1
        · exact .inl h
      · refine .inr ?_
        cases qq : H y with
        | none => rfl
        | some o =>
          have := s'.lk y (by rw [qq]; simp) (.inl (g0 y hy1))
          rw [g0 y hy1] at this
          exact absurd this (lab y (List.mem_cons_of_mem _ hy))
  cases o : s (d0 :: (ds ++ List.replicate (N.length - (ds.length + 1)) .non)) with
  | none => rw [o] at e; cases e
  | some o' =>
    rw [o] at e
    refine kk Pm g _ _ H o' _ st o ?_
    cases o' with
    | nx ρ' =>
      intro g' σ' H' s' st'
      obtain ⟨f1, af⟩ := fin s' st' hΓ h0.1 e
      exact q H' f1 af
    | ct ρ' => cases e
    | rt ρ' =>
      intro g' σ' H' s' st'
      obtain ⟨f1, af⟩ := fin s' st' hΓr h0.2 e
      exact q H' f1 af
end
/-! ### the slots behind such a call -/
def killO (Ls : List Nat) (Γ : List Kd) : List Kd := Γ.map fun k => if Ls.any (fun l => k.has l) then .dead else k
noncomputable def relO (g : Addr → Nat) (H H' : Hp) (a : Addr) (f f1 : List Addr) (c : Nat) : Addr → Nat := fun x =>
  open Classical in if H x = none ∧ x ∈ f1 then c else if x ∈ f ∧ x ∉ f1 then 0 else g x
section
variable {mg : Mg} {P : Fm} {LL : List Nat} {Γ : List Kd} {g : Addr → Nat} {ρ : List D} {σ : L2.St} {H H' : Hp} {a : Addr} {f f1 : List Addr} {d1 : D} {c : Nat} {Ls : List Nat}
theorem relO_old {x : Addr} (h : H x ≠ none) (hf : x ∉ f) : relO g H H' a f f1 c x = g x := by
  unfold relO
  rw [if_neg fun z => h z.1, if_neg fun z => hf z.1]
theorem relO_in {x : Addr} (h : H x ≠ none) (hf : x ∈ f1) : relO g H H' a f f1 c x = g x := by
  unfold relO
  rw [if_neg fun z => h z.1, if_neg fun z => z.2 hf]
theorem relO_new {x : Addr} (h : H x = none) (hf : x ∈ f1) : relO g H H' a f f1 c x = c := by
  unfold relO
  rw [if_pos ⟨h, hf⟩]
/-- what the callee may have changed bears one of these labels -/
structure In (P : Fm) (LL : List Nat) (g : Addr → Nat) (H : Hp) (a : Addr) (f : List Addr) (Ls : List Nat) : Prop where
  lab : ∀ x ∈ a :: f, g x ∈ Ls
  nl : ∀ l ∈ Ls, l ≠ 0 ∧ l ∉ LL
theorem AftO.kp (t : AftO mg H H' a f d1 f1) {x : Addr} (h : x ∉ a :: f) : Kp H H' x := by
  refine ⟨fun u _ r => ?_, fun vs r => t.keep x _ h r, fun _ _ _ r => t.keep x _ h r⟩
  rcases r with r | ⟨o, r⟩
  · exact .inl (t.keep x _ h r)
  · exact .inr ⟨o, t.keep x _ h r⟩
theorem AftO.kpT (t : AftO mg H H' a f d1 f1) (mu : ∀ x ∈ a :: f, Mut (H x)) : KpT H H' := by
  refine ⟨fun x xs e => t.keep x _ (fun z => ?_) e, fun x o vs e => t.keep x _ (fun z => ?_) e, fun x o vs e => t.keep x _ (fun z => ?_) e⟩
  · exact mut_tup (mu x z) e
  · exact mut_frz (mu x z) e
  · exact mut_frz (mu x z) e
theorem AftO.mu0 (i : In P LL g H a f Ls) (l : Loc P LL g H) : ∀ x ∈ a :: f, Mut (H x) := fun x hx => by
  have hl := i.nl _ (i.lab x hx)
  obtain ⟨o, e, m⟩ := l.at_ x hl.1
  rw [e]
  rcases m with m | m
  · exact m
  · exact ((l.fz x m).2.elim hl.1 hl.2).elim
theorem AftO.loc (t : AftO mg H H' a f d1 f1) (i : In P LL g H a f Ls) (l : Loc P LL g H) (hc : c ≠ 0) : Loc P LL (relO g H H' a f f1 c) H' := by
  have mu := AftO.mu0 i l
  refine ⟨fun x h => ?_, fun x hx => t.th x (l.out x hx), fun x hx => ?_⟩
  · by_cases hx : x ∈ a :: f1
    · have := t.mu x hx
      cases q : H' x with
      | none => rw [q] at this; exact this.elim
      | some o => rw [q] at this; exact ⟨o, rfl, .inl this⟩
    · have hx1 : x ∉ f1 := fun z => hx (List.mem_cons_of_mem _ z)
      have hxa : x ≠ a := fun z => hx (by simp [z])
      unfold relO at h
      rw [if_neg fun z => hx1 z.2] at h
      split at h
      · exact absurd rfl h
      · rename_i hf
        have hxf : x ∉ f := fun z => hf ⟨z, hx1⟩
        obtain ⟨o, e1, e2⟩ := l.at_ x h
        exact ⟨o, t.keep x o (by simp [hxa, hxf]) e1, e2⟩
  · obtain ⟨⟨o, u, q⟩, h2⟩ := l.fz x hx
    have hx1 : x ∉ a :: f := fun z => mut_frz (mu x z) q
    refine ⟨⟨o, u, t.keep x _ hx1 q⟩, ?_⟩
    rw [relO_old (by rw [q]; simp) fun z => hx1 (List.mem_cons_of_mem _ z)]
    exact h2
theorem AftO.step (t : AftO mg H H' a f d1 f1) (i : In P LL g H a f Ls) : Step LL g H (relO g H H' a f f1 c) H' := by
  have na : ∀ x, lk LL (g x) → x ∉ a :: f := fun x hx z => by
    have := i.nl _ (i.lab x z)
    exact hx.elim this.1 this.2
  exact ⟨fun x hx u hu => t.keep x u (na x hx) hu, fun x h hx => relO_old h fun z => na x hx (List.mem_cons_of_mem _ z), t.th⟩
theorem AftO.old (i : In P LL g H a f Ls) (l : Loc P LL g H) {L : List Nat} {x : Addr} (o : Old P g L x) (h : ∀ y ∈ L, y ∉ Ls) : Old P (relO g H H' a f f1 c) L x ∧ x ∉ a :: f := by
  have hx : x ∉ a :: f := fun z => h _ o.1 (i.lab x z)
  refine ⟨?_, hx⟩
  unfold Old
  rw [relO_old (o.there l) fun z => hx (List.mem_cons_of_mem _ z)]
  exact o
theorem AftO.cell (t : AftO mg H H' a f d1 f1) (i : In P LL g H a f Ls) (l : Loc P LL g H) {k : Kd} {d : D} {ov : Option V} (hc : CellOk mg P g H k d ov) : CellOk mg P (relO g H H' a f f1 c) H' (if Ls.any (fun l => k.has l) then .dead else k) d ov := by
  have mu := AftO.mu0 i l
  have kt := t.kpT mu
  split
  · trivial
  · rename_i hl0
    have hl : ∀ y ∈ Ls, k.has y = false := fun y hy => by
      cases q : k.has y with
      | false => rfl
      | true => exact absurd (List.any_eq_true.mpr ⟨y, hy, q⟩) hl0
    clear hl0
    induction k generalizing d ov with
    | dead => trivial
    | exc _ _ => exact hc
    | flat =>
      obtain ⟨v, rfl, r⟩ := hc
      exact ⟨v, rfl, r.keep (fun x hx => nomatch hx) kt⟩
    | pr p k1 k2 i1 i2 =>
      obtain ⟨b, e1, e2, v1, v2, q0, q1, r, q, c1, c2⟩ := hc
      simp only [Kd.has, Bool.or_eq_false_iff, beq_eq_false_iff_ne] at hl
      obtain ⟨o', hb⟩ := AftO.old (f1 := f1) (c := c) (H' := H') i l q fun y hy z => (hl y z).1.1 (List.mem_singleton.mp hy).symm
      exact ⟨b, e1, e2, v1, v2, q0, q1, t.keep b _ hb r, o', i1 c1 fun y hy => (hl y hy).1.2, i2 c2 fun y hy => (hl y hy).2⟩
    | ow fl n L =>
      obtain ⟨b, fb, q0, r, nd, o1, o2, o3⟩ := hc
      simp only [Kd.has, Bool.or_eq_false_iff, beq_eq_false_iff_ne] at hl
      have k1 := AftO.old (f1 := f1) (c := c) (H' := H') i l o1 fun y hy z => (hl y z).1 (List.mem_singleton.mp hy).symm
      have k2 := fun x hx => AftO.old (f1 := f1) (c := c) (H' := H') i l (o2 x hx) fun y hy z => by have := (hl y z).2; simp [hy] at this
      refine ⟨b, fb, q0, r.keep (fun x hx => ?_) kt, nd, k1.1, fun x hx => (k2 x hx).1, o3⟩
      rcases List.mem_cons.mp hx with rfl | hx
      · exact t.kp k1.2
      · exact t.kp (k2 x hx).2
    | lab rt L nd =>
      obtain ⟨v, fp, q0, r, q, z⟩ := hc
      simp only [Kd.has, Bool.or_eq_false_iff] at hl
      have key : ∀ x ∈ fp, x ∉ a :: f := fun x hx => by
        rcases q x hx with ⟨_, m, rfl, y⟩ | ⟨_, y⟩
        · exact (AftO.old (f1 := f1) (c := c) (H' := H') i l y fun u hu z => by have := (hl u z).2; rw [List.mem_singleton.mp hu] at this; simp at this).2
        · exact (AftO.old (f1 := f1) (c := c) (H' := H') i l y fun u hu z => by have := (hl u z).1; simp [hu] at this).2
      refine ⟨v, fp, q0, r.keep (fun x hx => t.kp (key x hx)) kt, fun x hx => ?_, z⟩
      rcases q x hx with ⟨e, m, rfl, y⟩ | ⟨e, y⟩
      · exact .inl ⟨e, m, rfl, (AftO.old (f1 := f1) (c := c) (H' := H') i l y fun u hu z => by have := (hl u z).2; rw [List.mem_singleton.mp hu] at this; simp at this).1⟩
      · exact .inr ⟨e, (AftO.old (f1 := f1) (c := c) (H' := H') i l y fun u hu z => by have := (hl u z).1; simp [hu] at this).1⟩
    | ob m Lo =>
      obtain ⟨x, C, dx, c', ns, vs, ds, fps, rfl, rfl, hc', hl', r, ob, rs, fs, nd⟩ := hc
      simp only [Kd.has, Bool.or_eq_false_iff, beq_eq_false_iff_ne] at hl
      have k1 := AftO.old (f1 := f1) (c := c) (H' := H') i l ob.1 fun y hy z => (hl y z).1 (List.mem_singleton.mp hy).symm
      have key : ∀ (y : Addr) (L : List Nat), L ∈ Lo → Old P g L y → Old P (relO g H H' a f f1 c) L y ∧ y ∉ a :: f := fun y L hL o => AftO.old i l o fun u hu z => by
        have := (hl u z).2
        rw [List.any_eq_false] at this
        exact this L hL (by simpa using hu)
      have fsm : ∀ {fs' : List (List Addr)} {Lo' : List (List Nat)}, (∀ L ∈ Lo', L ∈ Lo) → FpS (fun b L => Old P g L b) fs' Lo' → FpS (fun b L => Old P (relO g H H' a f f1 c) L b) fs' Lo' := by
        intro fs'
        induction fs' with
        | nil =>
          intro Lo' _ h
          cases Lo' with
          | nil => trivial
          | cons _ _ => exact h.elim
        | cons f0 r ih =>
          intro Lo' hs h
          cases Lo' with
          | nil => exact h.elim
          | cons L0 Lr => exact ⟨fun b hb => (key b L0 (hs L0 List.mem_cons_self) (h.1 b hb)).1, ih (fun L hL => hs L (List.mem_cons_of_mem _ hL)) h.2⟩
      refine ⟨x, C, dx, c', ns, vs, ds, fps, rfl, rfl, hc', hl', t.keep x _ k1.2 r, ⟨k1.1, ob.2⟩, rs.monoF fun d v f0 hf h => h.keep (fun y hy => ?_) kt, fsm (fun L h => h) fs, nd⟩
      obtain ⟨L, hL, o⟩ := fs.mem hf hy
      exact t.kp (key y L hL o).2
    | dk fl m p L =>
      obtain ⟨x, y, F, q0, r, o1, o2, o3, o4⟩ := hc
      simp only [Kd.has, Bool.or_eq_false_iff, beq_eq_false_iff_ne] at hl
      have k1 := AftO.old (f1 := f1) (c := c) (H' := H') i l o1 fun u hu z => (hl u z).1.1 (List.mem_singleton.mp hu).symm
      have k2 := AftO.old (f1 := f1) (c := c) (H' := H') i l o2 fun u hu z => (hl u z).1.2 (List.mem_singleton.mp hu).symm
      have k3 := fun x hx => AftO.old (f1 := f1) (c := c) (H' := H') i l (o3 x hx) fun u hu z => by have := (hl u z).2; simp [hu] at this
      refine ⟨x, y, F, q0, r.keep (fun z hz => ?_) kt, k1.1, k2.1, fun x hx => (k3 x hx).1, o4⟩
      rcases List.mem_cons.mp hz with rfl | hz
      · exact t.kp k1.2
      · rcases List.mem_cons.mp hz with rfl | hz
        · exact t.kp k2.2
        · exact t.kp (k3 z hz).2
theorem AftO.cells (t : AftO mg H H' a f d1 f1) (i : In P LL g H a f Ls) (l : Loc P LL g H) : ∀ {Γ : List Kd} {ρ : List D} {σ : L2.St}, Cells mg P g H Γ ρ σ → Cells mg P (relO g H H' a f f1 c) H' (killO Ls Γ) ρ σ
  | [], [], [], _ => trivial
  | _ :: _, _ :: _, _ :: _, h => ⟨t.cell i l h.1, AftO.cells t i l h.2⟩
  | [], _ :: _, _, h => h.elim
  | [], [], _ :: _, h => h.elim
  | _ :: _, [], _, h => h.elim
  | _ :: _, _ :: _, [], h => h.elim
end
end VV

/-! ## VOwnC -/
/-! calls of procedures: f(self.x, ..), self.m(..); a tree of its own read, made -/
namespace VV
open PySem PySem.Spec PyProof.Rows L2
def CalFO (P : Program) (w : World) (K : PySem.W.Frag) (mg : Str → Option Value) (base : Heap) (x : Str) (k : Nat) (ps : List Str) (sem : List D → Option D) : Prop :=
  ∃ f fd, FnOk P w K mg base CX0 k f fd ps (spO ⟨mg, K⟩ sem ps.length) ∧ mg x = some (.ref f) ∧ PySem.W.keepIn K (.ref f) = true ∧ Binds K fd ps []
def CalMO (P : Program) (w : World) (K : PySem.W.Frag) (mg : Str → Option Value) (base : Heap) (c m : Str) (k : Nat) (ps : List Str) (sem : List D → Option D) : Prop :=
  ∃ f fd C, FnOk P w K mg base CX0 k f fd ps (spO ⟨mg, K⟩ sem ps.length) ∧ mg c = some (.ref C) ∧ Cls K C ∧ Meth K C m f ∧ Binds K fd ps []
def setF (f : Str) (z : D) : List Str → List D → List D
  | n :: ns, d :: ds => if n = f then z :: ds else d :: setF f z ns ds
  | _, ds => ds
theorem fld_put {mg : Mg} {H : Hp} {f : Str} : ∀ {ns : List Str} {ds : List D} {vs : List V} {fp : List Addr} {d : D}, RepL mg H ds vs fp → ns.length = vs.length → fldD f ns ds = some d →
    ∃ v f1 f' f2, (ns.zip vs).lookup f = some v ∧ Rep mg H d v f' ∧ fp = f1 ++ f' ++ f2 ∧ ∀ (H' : Hp) (z : D) (g' : List Addr), (∀ x ∈ f1 ++ f2, Kp H H' x) → KpT H H' → Rep mg H' z v g' → RepL mg H' (setF f z ns ds) vs (f1 ++ g' ++ f2)
  | n :: ns, d0 :: ds, vs, fp, d, h, hl, e => by
    simp only [RepL] at h
    obtain ⟨v, r, f1, f2, rfl, h1, h2, rfl⟩ := h
    unfold fldD at e
    by_cases c : n = f
    · rw [if_pos c] at e
      cases e
      subst c
      refine ⟨v, [], f1, f2, by simp [List.lookup_cons], h1, by simp, fun H' z g' kp kt rz => ?_⟩
      unfold setF
      rw [if_pos rfl]
      simp only [RepL]
      exact ⟨v, r, g', f2, rfl, rz, h2.keep (fun x hx => kp x (by simp [hx])) kt, by simp⟩
    · rw [if_neg c] at e
      obtain ⟨v', a, b, c', e1, e2, e3, e4⟩ := fld_put h2 (by simpa using hl) e
      refine ⟨v', f1 ++ a, b, c', ?_, e2, by rw [e3]; simp, fun H' z g' kp kt rz => ?_⟩
      · rw [List.zip_cons_cons, List.lookup_cons]
        have : (f == n) = false := by
          rw [beq_eq_false_iff_ne]
          exact fun z => c z.symm
        rw [this]
        exact e1
      · unfold setF
        rw [if_neg c]
        simp only [RepL]
        exact ⟨v, r, f1, a ++ g' ++ c', rfl, h1.keep (fun x hx => kp x (by simp [hx])) kt, e4 H' z g' (fun x hx => kp x (by
          rcases List.mem_append.mp hx with hx | hx <;> simp [hx])) kt rz, by simp⟩
  | [], _, _, _, _, _, _, e => by cases e
  | _ :: _, [], _, _, _, _, _, e => by cases e
section
variable {mg : Mg} {P : Fm} {LL : List Nat} {Γ : List Kd} {g : Addr → Nat} {ρ : List D} {σ : L2.St} {H H2 : Hp}
/-- numbers of labels that a call wants -/
def owNums (LL : List Nat) (c n : Nat) (L : List Nat) : Prop := (n ≠ 0 ∧ n ∉ LL ∧ n ∉ L) ∧ (∀ l ∈ L, l ≠ 0 ∧ l ∉ LL) ∧ c ≠ 0 ∧ c ∉ LL ∧ c ≠ n
instance {LL : List Nat} {c n : Nat} {L : List Nat} : Decidable (owNums LL c n L) := by unfold owNums; infer_instance
theorem ow_call {i c n : Nat} {fl : Bool} {L : List Nat} (s : Sta mg P LL Γ g ρ σ H) (hk : Γ[i]? = some (.ow fl n L)) (hS : owNums LL c n L) :
    ∃ (d0 : D) (a : Addr) (f : List Addr), ρ[i]? = some d0 ∧ σ[i]? = some (some (.ref a)) ∧ Rep mg H d0 (.ref a) (a :: f) ∧ (a :: f).Nodup ∧ ∀ H2, Ext H H2 → (Rep mg H2 d0 (.ref a) (a :: f) ∧ ∀ x ∈ a :: f, Mut (H2 x)) ∧
      ∀ H' d1 f1, AftO mg H2 H' a f d1 f1 → ∃ g', Step LL g H g' H' ∧ Sta mg P LL ((killO (n :: L) Γ).set i (.ow fl n (c :: L))) g' (ρ.set i d1) σ H' := by
  obtain ⟨d0, ov, e1, e2, a, f, rfl, r, nd, o1, o2, o3⟩ := s.cells.get hk
  obtain ⟨⟨h1, h2, h3⟩, h4, h5, h6, h7⟩ := hS
  refine ⟨d0, a, f, e1, e2, r, nd, fun H2 x2 => ?_⟩
  have s2 := s.ext x2
  have i : In P LL g H2 a f (n :: L) := ⟨fun x hx => by
    rcases List.mem_cons.mp hx with rfl | hx
    · rw [List.mem_singleton.mp o1.1]; exact List.mem_cons_self
    · exact List.mem_cons_of_mem _ (o2 x hx).1, fun l hl => by
    rcases List.mem_cons.mp hl with rfl | hl
    · exact ⟨h1, h2⟩
    · exact h4 l hl⟩
  have mu := AftO.mu0 i s2.loc
  refine ⟨⟨r.ext x2, mu⟩, fun H' d1 f1 t => ⟨relO g H2 H' a f f1 c, (Step.ext x2).trans (t.step i), t.loc i s2.loc h5, Cells.put _ (t.cells i s2.loc s2.cells) ?_ e2⟩⟩
  have ha : H2 a ≠ none := fun z => by have := mu a List.mem_cons_self; rw [z] at this; exact this
  have haf : a ∉ f := (List.nodup_cons.mp nd).1
  have ga : g a = n := List.mem_singleton.mp o1.1
  refine ⟨a, f1, rfl, t.rep, t.nd, ?_, fun x hx => ?_, o3⟩
  · refine ⟨by rw [relO_old ha haf, ga]; exact List.mem_singleton.mpr rfl, fun z => ?_⟩
    rw [relO_old ha haf, ga] at z
    exact absurd z h1
  · by_cases hn : H2 x = none
    · refine ⟨by rw [relO_new hn hx]; exact List.mem_cons_self, fun z => ?_⟩
      rw [relO_new hn hx] at z
      exact absurd z h5
    · have hxf : x ∈ f := (t.fr x hx).resolve_right hn
      have hl := o2 x hxf
      refine ⟨by rw [relO_in hn hx]; exact List.mem_cons_of_mem _ hl.1, fun z => ?_⟩
      rw [relO_in hn hx] at z
      exact absurd z (h4 _ hl.1).1
/-- a tree below an attribute -/
theorem ow_attr {i c n : Nat} {fl : Bool} {L : List Nat} {cl at' : Str} {ns : List Str} {ds : List D} {d : D} (s : Sta mg P LL Γ g ρ σ H) (hk : Γ[i]? = some (.ow fl n L)) (hS : owNums LL c n L) (hρ : ρ[i]? = some (.obj cl ns ds)) (hd : fldD at' ns ds = some d) (hr : ∃ l, d = .lst l) :
    ∃ (p C dx b : Addr) (vs : List V) (fb : List Addr), σ[i]? = some (some (.ref p)) ∧ mg.mg cl = some (.ref C) ∧ H p = some (.ins C dx (ns.zip vs)) ∧ (ns.zip vs).lookup at' = some (.ref b) ∧ ∀ H2, Ext H H2 → (Rep mg H2 d (.ref b) (b :: fb) ∧ (b :: fb).Nodup ∧ ∀ x ∈ b :: fb, Mut (H2 x)) ∧
      ∀ H' d1 f1, AftO mg H2 H' b fb d1 f1 → ∃ g', Step LL g H g' H' ∧ Sta mg P LL ((killO L Γ).set i (.ow fl n (c :: L))) g' (ρ.set i (.obj cl ns (setF at' d1 ns ds))) σ H' := by
  obtain ⟨d0, ov, e1, e2, a, f, rfl, r, nd, o1, o2, o3⟩ := s.cells.get hk
  rw [hρ] at e1; cases e1
  obtain ⟨⟨h1, h2, h3⟩, h4, h5, h6, h7⟩ := hS
  have r0 := r
  simp only [Rep] at r0
  obtain ⟨p, C, dx, vs, fs, ep, hC, hl, hp, rl, ef⟩ := r0
  cases ep
  obtain rfl : f = fs := by simpa using ef
  obtain ⟨v, f1, f', f2, l1, rd, rfl, put⟩ := fld_put rl hl hd
  obtain ⟨l, rfl⟩ := hr
  have rd0 := rd
  simp only [Rep] at rd0
  obtain ⟨b, us, fb, rfl, hb, _, rfl⟩ := rd0
  refine ⟨a, C, dx, b, vs, fb, e2, hC, hp, l1, fun H2 x2 => ?_⟩
  have s2 := s.ext x2
  have ndall := nd
  obtain ⟨haf, ndf⟩ := List.nodup_cons.mp nd
  have mem : ∀ x ∈ b :: fb, x ∈ f1 ++ (b :: fb) ++ f2 := fun x hx => List.mem_append_left _ (List.mem_append_right _ hx)
  have i : In P LL g H2 b fb L := ⟨fun x hx => (o2 x (mem x hx)).1, h4⟩
  have mu := AftO.mu0 i s2.loc
  have ndb : (b :: fb).Nodup := (List.nodup_append.mp (List.nodup_append.mp ndf).1).2.1
  refine ⟨⟨rd.ext x2, ndb, mu⟩, fun H' d1 g1 t => ⟨relO g H2 H' b fb g1 c, (Step.ext x2).trans (t.step i), t.loc i s2.loc h5, Cells.put _ (t.cells i s2.loc s2.cells) ?_ e2⟩⟩
  have ga : g a = n := List.mem_singleton.mp o1.1
  have dis : ∀ x ∈ f1 ++ f2, x ∉ b :: fb := fun x hx hb' => by
    have n1 := List.nodup_append.mp ndf
    have n2 := List.nodup_append.mp n1.1
    rcases List.mem_append.mp hx with hx | hx
    · exact n2.2.2 x hx x hb' rfl
    · exact n1.2.2 x (List.mem_append_right _ hb') x hx rfl
  have hab : a ∉ b :: fb := fun z => haf (mem a z)
  have kt := t.kpT mu
  have th2 : ∀ x ∈ a :: (f1 ++ (b :: fb) ++ f2), H2 x ≠ none := (r.ext x2).there
  have rl2 := rl.ext x2
  obtain ⟨v', k1, k', k2, l1', rd', ek, put'⟩ := fld_put (H := H2) rl2 hl hd
  have rep' : RepL mg H' (setF at' d1 ns ds) vs (f1 ++ (b :: g1) ++ f2) := by
    have := put H' d1 (b :: g1) (fun x hx => ?_) ?_ t.rep
    · exact this
    · have := t.kp (dis x hx)
      have k0 := x2.kp x
      exact ⟨fun u hu r => this.1 u hu (k0.1 u hu r), fun vs r => this.2.1 vs (k0.2.1 vs r), fun A B C r => this.2.2 A B C (k0.2.2 A B C r)⟩
    · have k0 := x2.kpT
      exact ⟨fun x xs r => kt.1 x xs (k0.1 x xs r), fun x o vs r => kt.2.1 x o vs (k0.2.1 x o vs r), fun x o vs r => kt.2.2 x o vs (k0.2.2 x o vs r)⟩
  refine ⟨a, f1 ++ (b :: g1) ++ f2, rfl, ?_, ?_, ?_, fun x hx => ?_, o3⟩
  · simp only [Rep]
    exact ⟨a, C, dx, vs, _, rfl, hC, hl, t.keep a _ hab (x2 _ _ hp), rep', rfl⟩
  · have fresh : ∀ x ∈ b :: g1, x ∉ b :: fb → H2 x = none := fun x hx hn => by
      rcases List.mem_cons.mp hx with rfl | hx
      · exact absurd List.mem_cons_self hn
      · exact (t.fr x hx).resolve_left fun z => hn (List.mem_cons_of_mem _ z)
    have off : ∀ x ∈ b :: g1, x ∉ f1 ++ f2 ∧ x ≠ a := fun x hx => by
      by_cases hb' : x ∈ b :: fb
      · exact ⟨fun z => dis x z hb', fun z => hab (z ▸ hb')⟩
      · have hn := fresh x hx hb'
        refine ⟨fun z => th2 x (List.mem_cons_of_mem _ ?_) hn, fun z => th2 x (by rw [z]; exact List.mem_cons_self) hn⟩
        rcases List.mem_append.mp z with z | z <;> simp [z]
    have n1 := List.nodup_append.mp ndf
    have n2 := List.nodup_append.mp n1.1
    refine List.nodup_cons.mpr ⟨fun z => ?_, List.nodup_append.mpr ⟨List.nodup_append.mpr ⟨n2.1, t.nd, fun x hx y hy e => ?_⟩, n1.2.1, fun x hx y hy e => ?_⟩⟩
    · rcases List.mem_append.mp z with z | z
      · rcases List.mem_append.mp z with z | z
        · exact haf (by simp [z])
        · exact (off a z).2 rfl
      · exact haf (by simp [z])
    · subst e
      exact (off x hy).1 (List.mem_append_left _ hx)
    · subst e
      rcases List.mem_append.mp hx with hx | hx
      · exact n1.2.2 x (List.mem_append_left _ hx) x hy rfl
      · exact (off x hx).1 (List.mem_append_right _ hy)
  · have ha2 : H2 a ≠ none := th2 a List.mem_cons_self
    have hafb : a ∉ fb := fun z => hab (List.mem_cons_of_mem _ z)
    refine ⟨by rw [relO_old ha2 hafb, ga]; exact List.mem_singleton.mpr rfl, fun z => ?_⟩
    rw [relO_old ha2 hafb, ga] at z
    exact absurd z h1
  · have hL : ∀ y, g y ∈ L → relO g H2 H' b fb g1 c y = g y → Old P (relO g H2 H' b fb g1 c) (c :: L) y := fun y hy e => ⟨by rw [e]; exact List.mem_cons_of_mem _ hy, fun z => by rw [e] at z; exact absurd z (h4 _ hy).1⟩
    have old : ∀ y ∈ f1 ++ f2, Old P (relO g H2 H' b fb g1 c) (c :: L) y := fun y hy => by
      have hm : y ∈ f1 ++ (b :: fb) ++ f2 := by rcases List.mem_append.mp hy with z | z <;> simp [z]
      refine hL y (o2 y hm).1 (relO_old (th2 y (List.mem_cons_of_mem _ hm)) fun z => dis y hy (List.mem_cons_of_mem _ z))
    rcases List.mem_append.mp hx with hx | hx
    · rcases List.mem_append.mp hx with hx | hx
      · exact old x (List.mem_append_left _ hx)
      · rcases List.mem_cons.mp hx with rfl | hx
        · have hbm := mem x List.mem_cons_self
          exact hL x (o2 x hbm).1 (relO_old (th2 x (List.mem_cons_of_mem _ hbm)) (List.nodup_cons.mp ndb).1)
        · by_cases hn : H2 x = none
          · refine ⟨by rw [relO_new hn hx]; exact List.mem_cons_self, fun z => ?_⟩
            rw [relO_new hn hx] at z
            exact absurd z h5
          · have hxf : x ∈ fb := (t.fr x hx).resolve_right hn
            exact hL x (o2 x (mem x (List.mem_cons_of_mem _ hxf))).1 (relO_in hn hx)
    · exact old x (List.mem_append_right _ hx)
end
end VV

/-! ## VOwnD -/
/-! statements: f(self.x, ..), self.m(..), self.m(); a tree of its own read, set -/
namespace VV
open PySem PySem.Spec PyProof.Rows L2
def sOAttr (i : Nat) (cl at' : Str) (f : List D → Option D) (a : List D → Option (List D)) : Sv := fun ρ => match ρ[i]? with
  | some (.obj c ns ds) => if c = cl then (a ρ).bind fun xs => match fldD at' ns ds with
    | some (.lst l) => (f (.lst l :: xs)).map fun z => .nx (ρ.set i (.obj cl ns (setF at' z ns ds)))
    | _ => none
    else none
  | _ => none
def sOMeth (i : Nat) (cl m : Str) (f : List D → Option D) (a : List D → Option (List D)) : Sv := fun ρ => match ρ[i]? with
  | some (.obj c ns ds) => if c = cl ∧ m ∉ ns then (a ρ).bind fun xs => (f (.obj cl ns ds :: xs)).map fun z => .nx (ρ.set i z) else none
  | _ => none
theorem sOAttr_inv {i : Nat} {cl at' : Str} {f : List D → Option D} {a : List D → Option (List D)} {ρ : List D} {o : Out} (h : sOAttr i cl at' f a ρ = some o) :
    ∃ ns ds xs l z, ρ[i]? = some (.obj cl ns ds) ∧ a ρ = some xs ∧ fldD at' ns ds = some (.lst l) ∧ f (.lst l :: xs) = some z ∧ o = .nx (ρ.set i (.obj cl ns (setF at' z ns ds))) := by
  unfold sOAttr at h
  split at h
  · rename_i c ns ds hr
    split at h
    · rename_i hc
      subst hc
      obtain ⟨xs, e1, h⟩ := Option.bind_eq_some_iff.mp h
      split at h
      · rename_i l hl
        obtain ⟨z, e2, rfl⟩ := Option.map_eq_some_iff.mp h
        exact ⟨ns, ds, xs, l, z, hr, e1, hl, e2, rfl⟩
      · cases h
    · cases h
  · cases h
theorem sOMeth_inv {i : Nat} {cl m : Str} {f : List D → Option D} {a : List D → Option (List D)} {ρ : List D} {o : Out} (h : sOMeth i cl m f a ρ = some o) :
    ∃ ns ds xs z, ρ[i]? = some (.obj cl ns ds) ∧ m ∉ ns ∧ a ρ = some xs ∧ f (.obj cl ns ds :: xs) = some z ∧ o = .nx (ρ.set i z) := by
  unfold sOMeth at h
  split at h
  · rename_i c ns ds hr
    split at h
    · rename_i hc
      obtain ⟨rfl, hm⟩ := hc
      obtain ⟨xs, e1, h⟩ := Option.bind_eq_some_iff.mp h
      obtain ⟨z, e2, rfl⟩ := Option.map_eq_some_iff.mp h
      exact ⟨ns, ds, xs, z, hr, hm, e1, e2, rfl⟩
    · cases h
  · cases h
section
variable {X : Cx} {W : L2.WX} {sc : Sc} {Γ : List Kd} {pos pos' p px apos : Pos} {k : Nat} {ps : List Str} {sem : List D → Option D}
theorem sx_oattr {i : Nat} {x y cl at' : Str} {fl : Bool} {n : Nat} {L : List Nat} {e : Expr} {es : List Expr} {a : List D → Option (List D)} (c : Nat) (cm : CalFO X.prog X.w X.K X.mg X.base x k ps sem) (hr : Room k X.A) (hg : Gl X x) (hc : ClsF X.K X.mg cl) (hf : NoF X.K X.mg cl at') (hk : Γ[i]? = some (.ow fl n L)) (hN : X.N[i]? = some y) (hv : Vis X.env.scope y)
    (ha : EA X sc.LL Γ (e :: es) a .flat) (hn : (e :: es).length + 1 = ps.length := by rfl) (hS : owNums sc.LL c n L := by decide)
    (hdb : (x == ("__debug__" : Str)) = false := by decide) (hdy : (y == ("__debug__" : Str)) = false := by decide) (hcd : (y == ("__classdict__" : Str)) = false := by decide)
    (hb : attributeBase (.Name y px) at' X.env (eval (.Name y px) X.env) = eval (.Name y px) X.env := by rfl)
    (hst0 : starEach (.Attribute (.Name y px) at' apos :: e :: es) X.env = (false, eval (.Attribute (.Name y px) at' apos) X.env) :: starEach (e :: es) X.env := by rfl) (hpl : (backTo pos (starEach (e :: es) X.env)).any (·.1) = false := by rfl)
    (hs : swapsWith (.Call (.Name x p) (.Attribute (.Name y px) at' apos :: e :: es) [] pos) none pos'.line X.env = pure false := by rfl) :
    SX X W sc Γ (.Expr (.Call (.Name x p) (.Attribute (.Name y px) at' apos :: e :: es) [] pos) pos') (sOAttr i cl at' sem a) ((killO L Γ).set i (.ow fl n (c :: L))) := by
  obtain ⟨f, fd, F, hm, hkp, hbd⟩ := cm
  obtain ⟨hl, t, pt, kk⟩ := ha
  refine ⟨_, ps_expr (pe_call F hr hg hm hkp hbd .nil (E := fun _ _ _ => False) pass0 (pa_cons (pe_fld (pe_var hN hv hdy hcd) hb) pt hst0) hdb hst0 hpl) hs, fun P g ρ σ H o D s hz w => ?_⟩
  obtain ⟨ns, ds, xs, l, z, hρ, ea, hfd, ef, rfl⟩ := sOAttr_inv hz
  obtain ⟨p0, C, dx, b, vs, fb, g2, hC, hp, hlk, main⟩ := ow_attr (c := c) s hk hS hρ hfd ⟨l, rfl⟩
  obtain ⟨C1, hC1, cls⟩ := hc
  obtain ⟨C2, hC2, na⟩ := hf
  rw [show X.mg cl = some (.ref C) from hC] at hC1 hC2
  cases hC1
  cases hC2
  refine ⟨.ref p0, g2, p0, C, dx, _, .ref b, rfl, hp, cls, na, hlk, ?_⟩
  refine kk P g ρ σ H xs _ s ea fun ws H2 x2 vl => ?_
  obtain ⟨fq, rq, oq⟩ := vl
  have : fq = [] := oq
  subst this
  obtain ⟨⟨r2, nd2, mu2⟩, fin⟩ := main H2 x2
  refine ⟨by rw [List.append_nil, List.length_cons, ← hn]; simp [rq.length, hl ρ xs ea], .lst l, xs, b, fb, ws, by rw [List.append_nil], r2, nd2, mu2, rq, z, ef, fun H' f1 af => ?_⟩
  obtain ⟨g', st, sta⟩ := fin H' z f1 af
  exact w g' σ H' st sta
theorem sx_ometh {i : Nat} {y cl m : Str} {fl : Bool} {n : Nat} {L : List Nat} {e : Expr} {es : List Expr} {a : List D → Option (List D)} {pl : Sem Bool} (c : Nat) (cm : CalMO X.prog X.w X.K X.mg X.base cl m k ps sem) (hr : Room k X.A) (hk : Γ[i]? = some (.ow fl n L)) (hN : X.N[i]? = some y) (hv : Vis X.env.scope y)
    (ha : EA X sc.LL Γ (e :: es) a .flat) (hn : (e :: es).length + 1 = ps.length := by rfl) (hS : owNums sc.LL c n L := by decide)
    (hdb : (y == ("__debug__" : Str)) = false := by decide) (hcd : (y == ("__classdict__" : Str)) = false := by decide)
    (hst : starEach (e :: es) X.env = (false, eval e X.env) :: starEach es X.env := by rfl) (hpl : (backTo pos (starEach es X.env)).any (·.1) = false := by rfl)
    (ht : eval (.Call (.Attribute (.Name y px) m apos) (e :: es) [] pos) X.env = (do
      let ov ← eval (.Name y px) X.env
      standAt apos.atName
      let (f, first) ← holding [ov] (getMethod ov m pl)
      callWith pos f first (backTo pos (starEach (e :: es) X.env)) (backToKw pos (keywordEach [] X.env))) := by rfl)
    (hs : swapsWith (.Call (.Attribute (.Name y px) m apos) (e :: es) [] pos) none pos'.line X.env = pure false := by rfl) :
    SX X W sc Γ (.Expr (.Call (.Attribute (.Name y px) m apos) (e :: es) [] pos) pos') (sOMeth i cl m sem a) ((killO (n :: L) Γ).set i (.ow fl n (c :: L))) := by
  obtain ⟨f, fd, C, F, hC, hcls, hm, hb⟩ := cm
  obtain ⟨hl, t, pt, kk⟩ := ha
  refine ⟨_, ps_expr (pe_meth (pe_var hN hv hdb hcd) hcls hm F hr hb .nil (E := fun _ _ _ => False) pass0 pt hst hpl ht) hs, fun P g ρ σ H o D s hz w => ?_⟩
  obtain ⟨ns, ds, xs, z, hρ, hmn, ea, ef, rfl⟩ := sOMeth_inv hz
  obtain ⟨d0, a0, fa, e1, g2, r0, nd0, main⟩ := ow_call (c := c) s hk hS
  rw [hρ] at e1; cases e1
  refine ⟨.ref a0, g2, ?_⟩
  have r1 := r0
  simp only [Rep] at r1
  obtain ⟨p, C', dx, vs, fs, ep, hC', hlv, hp, rl, _⟩ := r1
  cases ep
  rw [show X.mg cl = some (.ref C') from hC'] at hC
  cases hC
  refine ⟨a0, dx, _, rfl, hp, lookup_no hmn, ?_⟩
  refine kk P g ρ σ H xs _ s ea fun ws H2 x2 vl => ?_
  obtain ⟨fq, rq, oq⟩ := vl
  have : fq = [] := oq
  subst this
  obtain ⟨⟨r2, mu2⟩, fin⟩ := main H2 x2
  refine ⟨by rw [List.append_nil, List.length_cons, ← hn]; simp [rq.length, hl ρ xs ea], .obj cl ns ds, xs, a0, fa, ws, by rw [List.append_nil], r2, nd0, mu2, rq, z, ef, fun H' f1 af => ?_⟩
  obtain ⟨g', st, sta⟩ := fin H' z f1 af
  exact w g' σ H' st sta
theorem sx_ometh0 {i : Nat} {y cl m : Str} {fl : Bool} {n : Nat} {L : List Nat} {pl : Sem Bool} (c : Nat) (cm : CalMO X.prog X.w X.K X.mg X.base cl m k ps sem) (hr : Room k X.A) (hk : Γ[i]? = some (.ow fl n L)) (hN : X.N[i]? = some y) (hv : Vis X.env.scope y)
    (hn : 1 = ps.length := by rfl) (hS : owNums sc.LL c n L := by decide)
    (hdb : (y == ("__debug__" : Str)) = false := by decide) (hcd : (y == ("__classdict__" : Str)) = false := by decide)
    (ht : eval (.Call (.Attribute (.Name y px) m apos) [] [] pos) X.env = (do
      let ov ← eval (.Name y px) X.env
      standAt apos.atName
      let (f, first) ← holding [ov] (getMethod ov m pl)
      callWith pos f first (backTo pos (starEach [] X.env)) (backToKw pos (keywordEach [] X.env))) := by rfl)
    (hs : swapsWith (.Call (.Attribute (.Name y px) m apos) [] [] pos) none pos'.line X.env = pure false := by rfl) :
    SX X W sc Γ (.Expr (.Call (.Attribute (.Name y px) m apos) [] [] pos) pos') (sOMeth i cl m sem aNil) ((killO (n :: L) Γ).set i (.ow fl n (c :: L))) := by
  obtain ⟨f, fd, C, F, hC, hcls, hm, hb⟩ := cm
  refine ⟨_, ps_expr (pe_meth0 (pe_var hN hv hdb hcd) hcls hm F hr hb .nil (E := fun _ _ _ => False) pass0 ht) hs, fun P g ρ σ H o D s hz w => ?_⟩
  obtain ⟨ns, ds, xs, z, hρ, hmn, ea, ef, rfl⟩ := sOMeth_inv hz
  cases ea
  obtain ⟨d0, a0, fa, e1, g2, r0, nd0, main⟩ := ow_call (c := c) s hk hS
  rw [hρ] at e1; cases e1
  refine ⟨.ref a0, g2, ?_⟩
  have r1 := r0
  simp only [Rep] at r1
  obtain ⟨p, C', dx, vs, fs, ep, hC', hlv, hp, rl, _⟩ := r1
  cases ep
  rw [show X.mg cl = some (.ref C') from hC'] at hC
  cases hC
  refine ⟨a0, dx, _, rfl, hp, lookup_no hmn, ?_⟩
  obtain ⟨⟨r2, mu2⟩, fin⟩ := main H Ext.refl
  refine ⟨hn, .obj cl ns ds, [], a0, fa, [], rfl, r2, nd0, mu2, by simp [RepL], z, ef, fun H' f1 af => ?_⟩
  obtain ⟨g', st, sta⟩ := fin H' z f1 af
  exact w g' σ H' st sta
/-! ### read, set -/
theorem ex_varO {LL : List Nat} {x : Str} {fl : Bool} {n : Nat} {L : List Nat} (i : Nat) (hk : Γ[i]? = some (.ow fl n L)) (hN : X.N[i]? = some x) (hv : Vis X.env.scope x)
    (hdb : (x == ("__debug__" : Str)) = false := by decide) (hcd : (x == ("__classdict__" : Str)) = false := by decide) : EX X LL Γ (.Name x pos) (eVar i) (.al false (.old n) L true) := by
  refine ⟨tVar i, pe_var hN hv hdb hcd, fun P g ρ σ H d Q s hs q => ?_⟩
  obtain ⟨d', ov, e1, e2, a, f, rfl, r, nd, o1, o2, o3⟩ := s.cells.get hk
  have e : d' = d := Option.some.inj (e1.symm.trans hs)
  subst e
  refine ⟨_, e2, q _ H Ext.refl ⟨a :: f, r, fun x hx => ?_, .of nd⟩⟩
  rcases List.mem_cons.mp hx with rfl | hx
  · exact .inl ⟨rfl, o1⟩
  · refine .inr ⟨.inl fun z => ?_, .inr (o2 x hx)⟩
    cases z
    exact (List.nodup_cons.mp nd).1 hx
def sSetO (i : Nat) (se : Ev) : Sv := fun ρ => match se ρ with
  | some (.obj c ns ds) => some (.nx (ρ.set i (.obj c ns ds)))
  | _ => none
theorem sx_setO {i : Nat} {x : Str} {e : Expr} {se : Ev} {pos2 : Pos} {md : Md} (n k : Nat) (hN : X.N.Nodup) (hi : X.N[i]? = some x) (hx : L2.Loc X.env.scope x) (he : EX X sc.LL Γ e se md) (hmd : md = .al true .new [] true := by rfl)
    (hs : swapsWith e (some (.Name x pos2)) pos.line X.env = pure false := by rfl) (hf : X.fn x = true ∨ X.env.scope.names.lookup x = some .local := by first | exact .inl rfl | exact .inr rfl | assumption)
    (h1 : n ≠ 0 := by decide) (h2 : k ≠ 0 := by decide) : SX X W sc Γ (.Assign [.Name x pos2] e pos) (sSetO i se) (Γ.set i (.ow false n [k])) := by
  subst hmd
  obtain ⟨t, p, kk⟩ := he
  refine ⟨_, ps_set hN hi hx p hs hf, fun P g ρ σ H o D s e w => ?_⟩
  unfold sSetO at e
  split at e
  · rename_i c ns ds hse
    cases e
    refine kk P g ρ σ H _ _ s hse fun v H' x1 vl => ?_
    obtain ⟨fp, r, hN', hnd, _⟩ := vl
    have r0 := r
    simp only [Rep] at r0
    obtain ⟨a, C, dx, vs, fs, rfl, hC, hl, hp, rl, rfl⟩ := r0
    have nd := hnd rfl
    have nw : ∀ y ∈ a :: fs, New H H' y := fun y hy => by
      rcases hN' y hy with ⟨_, z⟩ | ⟨_, ⟨_, z⟩ | z⟩
      · exact z
      · exact z
      · exact nomatch z.1
    have haf := (List.nodup_cons.mp nd).1
    refine w (relF g H H' fun y => if y = a then n else k) _ H' ⟨fun y _ u hu => x1 y u hu, fun y hy _ => relF_old hy, fun y hy z => hy (x1.nope z)⟩ ⟨s.loc.relF x1, Cells.set i (s.relF x1).cells ⟨a, fs, rfl, r, nd, ?_, fun y hy => ?_, fun z => nomatch z⟩⟩
    · exact old_relF (nw a List.mem_cons_self) (by simp) h1
    · exact old_relF (nw y (List.mem_cons_of_mem _ hy)) (by
        have : y ≠ a := fun z => haf (by rw [← z]; exact hy)
        rw [if_neg this]) h2
  · cases e
end
end VV

/-! ## VOwnE -/
/-! for row in rows: each row of a list of flat lists is changed where it stands -/
namespace VV
open PySem PySem.Spec PyProof.Rows L2
def mapO (F : D → Option D) : List D → Option (List D)
  | [] => some []
  | d :: r => (F d).bind fun z => (mapO F r).map (z :: ·)
theorem mapO_get {F : D → Option D} : ∀ {l r : List D}, mapO F l = some r → r.length = l.length ∧ ∀ (t : Nat) (d : D), l[t]? = some d → ∃ z, F d = some z ∧ r[t]? = some z
  | [], r, h => by
    cases h
    exact ⟨rfl, fun t d e => by simp at e⟩
  | d :: l, r, h => by
    obtain ⟨z, e1, h⟩ := Option.bind_eq_some_iff.mp h
    obtain ⟨r', e2, rfl⟩ := Option.map_eq_some_iff.mp h
    obtain ⟨h1, h2⟩ := mapO_get e2
    refine ⟨by simp [h1], fun t d' e => ?_⟩
    cases t with
    | zero => cases e; exact ⟨z, e1, rfl⟩
    | succ t => exact h2 t d' (by simpa using e)
/-- a row that is a flat list -/
def D.row : D → Bool
  | .lst zs => D.isFlatL zs
  | _ => false
def sOEach (i : Nat) (F : List D → D → Option D) : Sv := fun ρ => match ρ[i]? with
  | some (.lst rows) => if rows.all D.row then (mapO (F ρ) rows).map fun rs => .nx (ρ.set i (.lst rs)) else none
  | _ => none
section
variable {X : Cx} {W : L2.WX} {sc : Sc} {Γ : List Kd} {pos : Pos}
theorem relO_nil {g : Addr → Nat} {H H' : Hp} {a : Addr} {c : Nat} : relO g H H' a [] [] c = g := by
  funext x
  unfold relO
  rw [if_neg (fun z => absurd z.2 List.not_mem_nil), if_neg (fun z => absurd z.1 List.not_mem_nil)]
theorem killO_get {Ls : List Nat} {t : Nat} {k : Kd} (h : (killO Ls Γ)[t]? = some k) : ∀ l ∈ Ls, k.has l = false := by
  unfold killO at h
  rw [List.getElem?_map] at h
  cases e : Γ[t]? with
  | none => rw [e] at h; cases h
  | some k0 =>
    rw [e] at h
    simp only [Option.map_some, Option.some.injEq] at h
    intro l hl
    split at h
    · rw [← h]; rfl
    · rename_i hn
      rw [← h]
      cases q : k0.has l with
      | false => rfl
      | true => exact absurd (List.any_eq_true.mpr ⟨l, hl, q⟩) hn
theorem kill_same {Ls : List Nat} {Δ : List Kd} (h : ∀ (t : Nat) (k : Kd), Δ[t]? = some k → ∀ l ∈ Ls, k.has l = false) : killO Ls Δ = Δ := by
  apply List.ext_getElem?
  intro t
  unfold killO
  rw [List.getElem?_map]
  cases e : Δ[t]? with
  | none => rfl
  | some k =>
    simp only [Option.map_some]
    rw [if_neg]
    intro z
    obtain ⟨l, hl, q⟩ := List.any_eq_true.mp z
    rw [h t k e l hl] at q
    cases q
/-- the kinds at a turn: the list is not to be read, the row may be -/
abbrev eachΓ (n : Nat) (L : List Nat) (i j : Nat) (Γ : List Kd) : List Kd := ((killO (n :: L) Γ).set i .dead).set j (.lab none L false)
theorem sx_oeach {i j : Nat} {x y : Str} {px py : Pos} {fl : Bool} {n : Nat} {L : List Nat} {F : List D → D → Option D} {body : Stmt} {tb : TS} (hk : Γ[i]? = some (.ow fl n L)) (hij : i ≠ j) (hj : j < Γ.length) (hc : X.calm = true) (hp : PassesOwn (model X.prog X.w) X.A X.env X.xe)
    (hN : X.N.Nodup) (hx : X.N[i]? = some x) (hv : Vis X.env.scope x) (hy : X.N[j]? = some y) (hyl : L2.Loc X.env.scope y) (hyf : X.fn y = true ∨ X.env.scope.names.lookup y = some .local)
    (pb : PS X body tb)
    (kb : ∀ P g ρ σ H b us zs z D, Sta X.vm P sc.LL (eachΓ n L i j Γ) g (ρ.set j (.lst zs)) σ H → σ[j]? = some (some (.ref b)) → H b = some (.lst us) → RepL X.vm H zs us [] → F ρ (.lst zs) = some z →
      (∀ H1 us' zs', Ext H H1 → z = .lst zs' → RepL X.vm H1 zs' us' [] → D.nx σ (upd H1 b (.lst us'))) → tb D σ H)
    (hL : (n ≠ 0 ∧ n ∉ sc.LL ∧ n ∉ L) ∧ ∀ l ∈ L, l ≠ 0 ∧ l ∉ sc.LL)
    (hdb : (x == ("__debug__" : Str)) = false) (hcd : (x == ("__classdict__" : Str)) = false) (hfs : ∀ z, foldedSetIterable (.Name x px) X.env z = pure z) :
    SX X W sc Γ (.For (.Name y py) (.Name x px) [body] [] pos) (sOEach i F) (((killO (n :: L) Γ).set j .dead).set i (.ow fl n L)) := by
  refine ⟨_, ps_for hp hc (pi_list (pe_var hx hv hdb hcd)) (pg_name hN hy hyl hyf) (pss_one pb) hfs, fun P g ρ σ H o De s e w => ?_⟩
  unfold sOEach at e
  split at e
  case h_2 => cases e
  rename_i rows hρ
  split at e
  case isFalse => cases e
  rename_i hall
  obtain ⟨rs, ers, rfl⟩ := Option.map_eq_some_iff.mp e
  obtain ⟨hrl, hrs⟩ := mapO_get ers
  obtain ⟨d0, ov, h1, h2, a, f, rfl, r, nd, o1, o2, o3⟩ := s.cells.get hk
  rw [hρ] at h1; cases h1
  have r0 := r
  simp only [Rep] at r0
  obtain ⟨a', vs, f', ea, ha, rl, ef⟩ := r0
  cases ea
  obtain rfl : f = f' := by simpa using ef
  obtain ⟨haf, ndf⟩ := List.nodup_cons.mp nd
  have ga : g a = n := List.mem_singleton.mp o1.1
  obtain ⟨⟨n0, nLL, nL⟩, hLs⟩ := hL
  have hi : i < Γ.length := (List.getElem?_eq_some_iff.mp hk).1
  obtain ⟨Γd, hΓd⟩ : ∃ Γd, Γd = ((killO (n :: L) Γ).set i .dead).set j .dead := ⟨_, rfl⟩
  have hlen : (killO (n :: L) Γ).length = Γ.length := by simp [killO]
  have hΓl : Γd.length = Γ.length := by rw [hΓd]; simp [killO]
  have hΓj : Γd[j]? = some .dead := by rw [hΓd, List.getElem?_set_self (by rw [List.length_set, hlen]; exact hj)]
  have hΓi : Γd[i]? = some .dead := by rw [hΓd, List.getElem?_set_ne (Ne.symm hij), List.getElem?_set_self (by rw [hlen]; exact hi)]
  have hhas : ∀ (t : Nat) (k : Kd), Γd[t]? = some k → ∀ l ∈ n :: L, k.has l = false := fun t k hk l hl => by
    rw [hΓd] at hk
    by_cases e1 : j = t
    · subst e1
      rw [List.getElem?_set_self (by rw [List.length_set, hlen]; exact hj)] at hk
      cases hk; rfl
    · rw [List.getElem?_set_ne e1] at hk
      by_cases e2 : i = t
      · subst e2
        rw [List.getElem?_set_self (by rw [hlen]; exact hi)] at hk
        cases hk; rfl
      · rw [List.getElem?_set_ne e2] at hk
        exact killO_get hk l hl
  have hks : ∀ l ∈ L, killO [l] Γd = Γd := fun l hl => kill_same fun t k hk l' hl' => hhas t k hk l' (by rw [List.mem_singleton.mp hl']; exact List.mem_cons_of_mem _ hl)
  have sd : Sta X.vm P sc.LL Γd g ρ σ H := ⟨s.loc, Cells.weak s.cells hΓl fun t => by
    rw [hΓd]
    by_cases e1 : j = t
    · subst e1; right
      rw [List.getElem?_set_self (by rw [List.length_set, hlen]; exact hj)]
    · rw [List.getElem?_set_ne e1]
      by_cases e2 : i = t
      · subst e2; right
        rw [List.getElem?_set_self (by rw [hlen]; exact hi)]
      · rw [List.getElem?_set_ne e2]
        unfold killO
        rw [List.getElem?_map]
        cases Γ[t]? with
        | none => left; rfl
        | some k =>
          simp only [Option.map_some]
          split
          · right; rfl
          · left; rfl⟩
  have hvl := rl.length
  refine ⟨.ref a, h2, a, rfl, ⟨vs, SqL.of ha⟩, fun t m σ' H' => m = rows.length - t ∧ t ≤ rows.length ∧ σ'[i]? = some (some (.ref a)) ∧ H' a = some (.lst vs) ∧ Step sc.LL g H g H' ∧ Sta X.vm P sc.LL Γd g ρ σ' H' ∧
    ∃ f', f'.Sublist f ∧ RepL X.vm H' (rs.take t ++ rows.drop t) vs f', ⟨rows.length, rfl, Nat.zero_le _, h2, ha, .refl, sd, f, List.Sublist.refl _, by simpa using rl⟩, ?_⟩
  rintro t m σ' H' ⟨rfl, htl, hσi, ha', st, sta, f', hf', rl'⟩
  by_cases ht : t < rows.length
  · refine .inr ?_
    have hrt : rows[t]? = some rows[t] := List.getElem?_eq_getElem ht
    have hsh := List.all_eq_true.mp hall rows[t] (List.getElem_mem ht)
    obtain ⟨z, hz, hrz⟩ := hrs t _ hrt
    cases hr : rows[t] with
    | lst zs =>
      rw [hr] at hrt hsh hz
      have hfz : D.isFlatL zs = true := hsh
      have hcur : (rs.take t ++ rows.drop t)[t]? = some (.lst zs) := by
        rw [List.getElem?_append_right (by simp; omega)]
        simp only [List.length_take]
        rw [List.getElem?_drop]
        have : t + (t - min t rs.length) = t := by omega
        rw [this]; exact hrt
      obtain ⟨b, us, fr, e1, hb, rr, hbm, hbf, hh⟩ := repL_inner rl' hcur (ndf.sublist hf')
      have hfr : fr = [] := rr.flat hfz
      subst hfr
      refine ⟨⟨vs, .ref b, SqL.of ha', e1⟩, fun σ' H' => t + 1 ≤ rows.length ∧ σ'[i]? = some (some (.ref a)) ∧ H' a = some (.lst vs) ∧ Step sc.LL g H g H' ∧ Sta X.vm P sc.LL Γd g ρ σ' H' ∧
        ∃ f', f'.Sublist f ∧ RepL X.vm H' (rs.take (t + 1) ++ rows.drop (t + 1)) vs f', fun σ' H' h => ⟨rows.length - (t + 1), by omega, rfl, h⟩, fun x' H3 yl => ?_⟩
      obtain ⟨rfl, yl⟩ := yl
      have := yl vs (SqL.of ha')
      rw [e1] at this; cases this
      have hjσ : j < σ'.length := by
        obtain ⟨_, ov, _, h4, _⟩ := sta.cells.get hΓj
        exact (List.getElem?_eq_some_iff.mp h4).1
      have hbL := o2 b (hf'.subset hbm)
      have hlb := hLs _ hbL.1
      have hba : b ≠ a := fun z => haf (z ▸ hf'.subset hbm)
      have σ2i : (σ'.set j (some (.ref b)))[i]? = some (some (.ref a)) := by rw [List.getElem?_set_ne (Ne.symm hij)]; exact hσi
      have cellR : CellOk X.vm P g H3 (.lab none L false) (.lst zs) (some (.ref b)) := by
        refine ⟨.ref b, [b], rfl, ?_, fun q hq => .inr ⟨.inr rfl, by rw [List.mem_singleton.mp hq]; exact hbL⟩, .unk fun z => nomatch z⟩
        simp only [Rep]
        exact ⟨b, us, [], rfl, hb, rr, rfl⟩
      have sE : Sta X.vm P sc.LL (eachΓ n L i j Γ) g (ρ.set j (.lst zs)) (σ'.set j (some (.ref b))) H3 := by
        refine ⟨sta.loc, ?_⟩
        have := Cells.set j sta.cells cellR
        rw [hΓd, List.set_set] at this
        exact this
      have sD : Sta X.vm P sc.LL Γd g ρ (σ'.set j (some (.ref b))) H3 := by
        refine ⟨sta.loc, ?_⟩
        have := Cells.kill (ov := some (.ref b)) j sta.cells
        have e : Γd.set j .dead = Γd := by
          apply List.ext_getElem?
          intro q
          by_cases e : j = q
          · subst e; rw [List.getElem?_set_self (by rw [hΓl]; exact hj), hΓj]
          · rw [List.getElem?_set_ne e]
        rw [e] at this
        exact this
      refine kb P g ρ _ H3 b us zs z _ sE (by rw [List.getElem?_set_self hjσ]) hb rr hz fun H4 us' zs' x4 ez rz => ?_
      subst ez
      have sD4 := sD.ext x4
      have ha4 : H4 a = some (.lst vs) := x4 a _ ha'
      have hb4 : H4 b = some (.lst us) := x4 b _ hb
      obtain ⟨b2, us2, fr2, e12, hb2, rr2, hbm2, hbf2, hh2⟩ := repL_inner (rl'.ext x4) hcur (ndf.sublist hf')
      rw [e1] at e12; cases e12
      rw [hb4] at hb2; cases hb2
      have fzs' : RepL X.vm (upd H4 b (.lst us')) zs' us' [] := repL_upd rz (by simp) hb4 trivial
      obtain ⟨f2, hf2, rl2⟩ := hh2 us' zs' [] (List.nil_sublist _) fzs'
      have af : AftO X.vm H4 (upd H4 b (.lst us')) b [] (.lst zs') [] := by
        refine ⟨fun q u hq e => ?_, fun q hq => ?_, ?_, by simp, fun q hq => ?_, fun q hq => nomatch hq⟩
        · have : q ≠ b := fun z => hq (by simp [z])
          rw [upd_ne this]; exact e
        · by_cases hqb : q = b
          · subst hqb; rw [upd_same]; simp
          · rw [upd_ne hqb]; exact hq
        · simp only [Rep]
          exact ⟨b, us', [], rfl, upd_same, fzs', rfl⟩
        · rw [List.mem_singleton.mp hq, upd_same]; trivial
      have inn : In P sc.LL g H4 b [] [g b] := ⟨fun q hq => by rw [List.mem_singleton.mp hq]; exact List.mem_singleton.mpr rfl, fun l hl => by rw [List.mem_singleton.mp hl]; exact hlb⟩
      have stp := af.step (c := 1) inn
      have lc := af.loc (c := 1) inn sD4.loc (by decide)
      have cs := af.cells (c := 1) inn sD4.loc sD4.cells
      rw [relO_nil] at stp lc cs
      rw [hks _ hbL.1] at cs
      have enext : (rs.take t ++ rows.drop t).set t (.lst zs') = rs.take (t + 1) ++ rows.drop (t + 1) := by
        rw [List.set_append_right _ _ (by simp; omega)]
        simp only [List.length_take]
        have h0 : t - min t rs.length = 0 := by omega
        rw [h0, List.drop_eq_getElem_cons ht, List.set_cons_zero, List.take_add_one, hrz]
        simp
      rw [enext] at rl2
      exact ⟨by omega, σ2i, by rw [upd_ne (Ne.symm hba)]; exact ha4, (st.trans (.ext x4)).trans stp, ⟨lc, cs⟩, f2, hf2.trans hf', rl2⟩
    | _ => rw [hr] at hsh; cases hsh
  · have : t = rows.length := by omega
    subst this
    refine .inl ⟨⟨vs, SqL.of ha', by rw [hvl]; exact Nat.le_refl _⟩, ?_⟩
    rw [List.drop_length, List.append_nil, List.take_of_length_le (by omega)] at rl'
    have haf' : a ∉ f' := fun z => haf (hf'.subset z)
    have cell : CellOk X.vm P g H' (.ow fl n L) (.lst rs) (some (.ref a)) := by
      refine ⟨a, f', rfl, ?_, List.nodup_cons.mpr ⟨haf', ndf.sublist hf'⟩, o1, fun q hq => o2 q (hf'.subset hq), o3⟩
      simp only [Rep]
      exact ⟨a, vs, f', rfl, ha', rl', rfl⟩
    refine w g σ' H' st ⟨sta.loc, ?_⟩
    have := Cells.put i sta.cells cell hσi
    rw [hΓd] at this
    have e : (((killO (n :: L) Γ).set i .dead).set j .dead).set i (.ow fl n L) = ((killO (n :: L) Γ).set j .dead).set i (.ow fl n L) := by
      rw [List.set_comm _ _ hij, List.set_set]
    rw [e] at this
    exact this
end
end VV

/-! ## VOwnF -/
/-! a flat or told attribute set; rows changed: a number added at a place, two places changed about; rows of a tree of its own set, changed about -/
namespace VV
open PySem PySem.Spec PyProof.Rows L2
/-! ### an attribute that is flat, or new -/
def Md.nw : Md → Bool
  | .flat => true
  | .al _ .new [] nd => nd
  | .al _ .unk [] nd => nd
  | _ => false
theorem Val.fresh {mg : Mg} {P : Fm} {g : Addr → Nat} {H H1 : Hp} {m : Md} {d : D} {v : V} (h : Val mg P g H H1 m d v) (hm : m.nw = true) : ∃ fp, Rep mg H1 d v fp ∧ (∀ b ∈ fp, New H H1 b) ∧ fp.Nodup := by
  cases m with
  | flat =>
    refine ⟨[], h, ?_, List.nodup_nil⟩
    intro b hb
    cases hb
  | al fr rt L nd =>
    cases L with
    | cons _ _ => cases rt <;> cases hm
    | nil =>
      cases rt with
      | old n => cases hm
      | new =>
        obtain ⟨fp, r, q, z, _⟩ := h
        refine ⟨fp, r, fun b hb => ?_, z hm⟩
        rcases q b hb with ⟨_, y⟩ | ⟨_, ⟨_, y⟩ | y⟩
        · exact y
        · exact y
        · exact nomatch y.1
      | unk =>
        obtain ⟨fp, r, q, z, _⟩ := h
        refine ⟨fp, r, fun b hb => ?_, z hm⟩
        rcases q b hb with ⟨_, y⟩ | ⟨_, ⟨_, y⟩ | y⟩
        · exact y.elim
        · exact y
        · exact nomatch y.1
section
variable {X : Cx} {W : L2.WX} {sc : Sc} {Γ : List Kd} {LL : List Nat} {pos : Pos}
theorem sx_fldG {i : Nat} {x : Str} {px pos' : Pos} {e : Expr} {se : Ev} {m : Md} {n : Nat} {Ls : List (List Nat)} {c f : Str} (k : Nat) (hc : ClsF X.K X.mg c) (hf : NoF X.K X.mg c f) (hk : Γ[i]? = some (.ob n Ls)) (hN : X.N[i]? = some x) (hv : Vis X.env.scope x)
    (he : EX X sc.LL Γ e se m) (hm : m.nw = true := by rfl) (hn : n ≠ 0 := by decide) (hk0 : k ≠ 0 := by decide) (hL : n ∉ sc.LL := by decide) (hdb : (x == ("__debug__" : Str)) = false := by decide) (hcd : (x == ("__classdict__" : Str)) = false := by decide)
    (hs : swapsWith e (some (.Attribute (.Name x px) f pos')) pos.line X.env = pure false := by rfl) :
    SX X W sc Γ (.Assign [.Attribute (.Name x px) f pos'] e pos) (sFld0 i c f se) ((killK n Γ).set i (.ob n (Ls ++ [[k]]))) := by
  obtain ⟨t, pt, kk⟩ := he
  refine ⟨_, ps_fld (pe_var hN hv hdb hcd) pt hs, fun P g ρ σ H o De s e w => ?_⟩
  obtain ⟨l', ov, hρ, h2, h3⟩ := s.cells.get hk
  obtain ⟨a, C, dx, c', ns, vs, ds, fps, rfl, rfl, hC, hl, r, ob, rs, fs, nd⟩ := h3
  have hC : X.mg c' = some (.ref C) := hC
  unfold sFld0 at e
  obtain ⟨d, e1, e2⟩ := Option.bind_eq_some_iff.mp e
  clear e
  have e := e2
  clear e2
  rw [hρ] at e
  dsimp only at e
  split at e
  · rename_i hcf
    obtain ⟨hcc, hfn, hlen⟩ := hcf
    subst hcc
    cases e
    refine kk P g ρ σ H d _ s e1 fun y H2 x2 wv => ?_
    have st2 : Sta X.vm P sc.LL Γ (relab g H H2 .non k k) ρ σ H2 := s.relab x2
    have r2 : H2 a = some (.ins C dx (ns.zip vs)) := x2 _ _ r
    obtain ⟨C1, hC1, cls⟩ := hc
    obtain ⟨C2, hC2, na⟩ := hf
    rw [hC] at hC1 hC2
    cases hC1
    cases hC2
    have hlz : (ns.zip vs).length < 1000 := by rw [List.length_zip]; omega
    refine ⟨.ref a, h2, a, C, dx, _, rfl, r2, cls, na, hlz, ?_⟩
    rw [putF_new hfn hl]
    obtain ⟨fp, ry, hnew, ndf⟩ := wv.fresh hm
    have ob2 := Old.relab (H' := H2) (v := .non) (n := k) (m := k) ob.1 s.loc
    have hga : relab g H H2 .non k k a = n := List.mem_singleton.mp ob2.1
    have haf : a ∉ fp := fun h => by have := (hnew a h).1; rw [r] at this; cases this
    have hold : ∀ b ∈ fps.flatten, H b ≠ none := fun b hb => by
      obtain ⟨f', hf', hbf⟩ := List.mem_flatten.mp hb
      obtain ⟨L, _, hbL⟩ := fs.mem hf' hbf
      exact hbL.there s.loc
    have hafps : a ∉ fps.flatten := (List.nodup_cons.mp nd).1
    have cell : CellOk X.vm P (relab g H H2 .non k k) (upd H2 a (.ins C dx ((ns ++ [f]).zip (vs ++ [y])))) (.ob n (Ls ++ [[k]])) (.obj c' (ns ++ [f]) (ds ++ [d])) (some (.ref a)) := by
      refine ⟨a, C, dx, c', ns ++ [f], vs ++ [y], ds ++ [d], fps ++ [fp], rfl, rfl, hC, by simp [hl], upd_same, ⟨ob2, ob.2⟩, RepS.snoc (rep_upd ry haf r2 trivial) ((rs.mono fun d v f h => h.ext x2).monoF fun d v f' hf' h => rep_upd h (fun hm => hafps (List.mem_flatten.mpr ⟨f', hf', hm⟩)) r2 trivial), FpS.snoc (fun b hb => ?_) (fs.mono fun b L h => h.relab s.loc), ?_⟩
      · have : relab g H H2 .non k k b = k := by rw [relab_new (hnew b hb)]; split <;> rfl
        exact ⟨by rw [this]; exact List.mem_singleton.mpr rfl, fun z0 => by rw [this] at z0; exact absurd z0 hk0⟩
      · rw [List.flatten_append, List.flatten_cons, List.flatten_nil, List.append_nil]
        refine List.nodup_cons.mpr ⟨fun h => ?_, ?_⟩
        · rcases List.mem_append.mp h with h | h
          · exact hafps h
          · exact haf h
        · rw [List.nodup_append]
          exact ⟨(List.nodup_cons.mp nd).2, ndf, fun b hb c hc e => hold b hb (by rw [e]; exact (hnew c hc).1)⟩
    obtain ⟨s3, st3⟩ := st2.put (o' := .ins C dx ((ns ++ [f]).zip (vs ++ [y]))) r2 trivial trivial hga hn hL h2 cell
    exact w _ σ _ ((Step.relab x2).trans st3) s3
  · cases e
end
/-! ### x[i], by values -/
theorem get_list {X : Cx} : PGet X (rIxL X.K) := by
  intro pins s σ H x y v u Q I rx ry h
  obtain ⟨p, xs, i, z, rfl, rfl, hq, he, q⟩ := h
  cases rx
  obtain ⟨t, rfl⟩ := ry
  obtain ⟨its, r, pl, hz⟩ := I.list hq
  obtain ⟨j, h1, h2, h3, h4, h5⟩ := atI_get he
  obtain ⟨w, ew, rw'⟩ := r.get h2
  have hl := r.length
  have hn := line63
  have fin : EP X pins σ Q w s := ⟨z, H, I, rw', q⟩
  by_cases h0 : 0 ≤ i
  · have hj : i.toNat = j := by
      rw [seqIndex_of h0 h5] at h1
      exact Option.some.inj h1
    exact wpAny_getItem_list pl.isList h0 (by omega) (by rw [hj]; simpa using ew) fin
  · have hj : (i + (its.toArray.size : Int)).toNat = j := by
      rw [seqIndex_neg (by omega) h4] at h1
      rw [List.size_toArray, ← hl]
      exact Option.some.inj h1
    exact wpAny_getItem_list_neg pl.isList (by omega) (by rw [List.size_toArray] <;> omega) (by omega) (by rw [hj]; simpa using ew) fin
/-! ### the two row bodies -/
/-- row[i] += e -/
def rowAdd (j : Nat) (si se : Ev) : List D → D → Option D := fun ρ d => match d with
  | .lst zs => match si (ρ.set j (.lst zs)), se (ρ.set j (.lst zs)) with
    | some (.int k), some (.int y) => (ixN zs.length k).bind fun t => match zs[t]? with
      | some (.int x) => some (.lst (zs.set t (.int (x + y))))
      | _ => none
    | _, _ => none
  | _ => none
/-- row[i], row[k] = row[k], row[i] -/
def rowSwp (j i k : Nat) : List D → D → Option D := fun ρ d => match d with
  | .lst zs => match (ρ.set j (.lst zs))[i]?, (ρ.set j (.lst zs))[k]? with
    | some (.int x), some (.int y) => (ixN zs.length x).bind fun t => (ixN zs.length y).bind fun u => match zs[t]?, zs[u]? with
      | some a, some b => some (.lst ((zs.set t b).set u a))
      | _, _ => none
    | _, _ => none
  | _ => none
theorem repL_set0 {mg : Mg} {H : Hp} {d : D} {y : V} {ds : List D} {vs : List V} {t : Nat} (ry : Rep mg H d y []) (h : RepL mg H ds vs []) (ht : t < ds.length) : RepL mg H (ds.set t d) (vs.set t y) [] := by
  obtain ⟨f', g1, g2, _⟩ := repL_set ry h ht
  cases f' with
  | nil => exact g1
  | cons b r => rcases g2 b List.mem_cons_self with z | z <;> exact nomatch z
section
variable {X : Cx} {W : L2.WX} {sc : Sc} {Γ : List Kd} {LL : List Nat} {pos tpos bpos fpos : Pos}
theorem flat_parts {mg : Mg} {H : Hp} {ds : List D} {vs : List V} (h : RepL mg H ds vs []) {i : Nat} {d : D} (e : ds[i]? = some d) : ∃ v, vs[i]? = some v ∧ Rep mg H d v [] := by
  obtain ⟨v, f, h1, h2, f1, f2, h3⟩ := h.parts e
  have := h3.symm
  simp only [List.append_eq_nil_iff] at this
  obtain ⟨⟨rfl, rfl⟩, rfl⟩ := this
  exact ⟨v, h1, h2⟩
theorem row_add {i : Nat} {x y : Str} {px py : Pos} {fl : Bool} {n : Nat} {L : List Nat} {ei e : Expr} {si se : Ev} (j : Nat) (hk : Γ[i]? = some (.ow fl n L)) (hij : i ≠ j := by decide) (hj : j < Γ.length := by decide) (hc : X.calm = true) (hp : PassesOwn (model X.prog X.w) X.A X.env X.xe)
    (hN : X.N.Nodup) (hx : X.N[i]? = some x) (hv : Vis X.env.scope x) (hy : X.N[j]? = some y) (hyl : L2.Loc X.env.scope y) (hyv : Vis X.env.scope y)
    (he1 : EX X sc.LL (eachΓ n L i j Γ) ei si .flat) (he2 : EX X sc.LL (eachΓ n L i j Γ) e se .flat)
    (hyf : X.fn y = true ∨ X.env.scope.names.lookup y = some .local := by first | exact .inl rfl | exact .inr rfl | assumption)
    (hL : (n ≠ 0 ∧ n ∉ sc.LL ∧ n ∉ L) ∧ ∀ l ∈ L, l ≠ 0 ∧ l ∉ sc.LL := by decide)
    (hdb : (x == ("__debug__" : Str)) = false := by decide) (hcd : (x == ("__classdict__" : Str)) = false := by decide) (hdy : (y == ("__debug__" : Str)) = false := by decide) (hcy : (y == ("__classdict__" : Str)) = false := by decide) (hfs : ∀ z, foldedSetIterable (.Name x px) X.env z = pure z := by intro _; rfl)
    (ha : ∀ ov iv new, augStore ei ov iv new = (do holding [new, ov, iv] (setItem ov iv new); release [new, ov, iv] []; pure .next) := by intros; rfl) :
    SX X W sc Γ (.For (.Name y py) (.Name x px) [.AugAssign (.Subscript (.Name y bpos) ei tpos) .Add e pos] [] fpos) (sOEach i (rowAdd j si se)) (((killO (n :: L) Γ).set j .dead).set i (.ow fl n L)) := by
  obtain ⟨ti, pi, ki⟩ := he1
  obtain ⟨te, pe, ke⟩ := he2
  refine sx_oeach hk hij hj hc hp hN hx hv hy hyl hyf (ps_augS (pe_var hy hyv hdy hcy) pi get_list pe ip_add L2.set_list ha) (fun P g ρ σ H b us zs z D s hb1 hb2 rl hz w => ?_) hL hdb hcd hfs
  unfold rowAdd at hz
  dsimp only at hz
  split at hz
  · rename_i k y' e1 e2
    obtain ⟨t, et, hz⟩ := Option.bind_eq_some_iff.mp hz
    split at hz
    · rename_i x' ex
      cases hz
      refine ⟨.ref b, hb1, ?_⟩
      refine ki P g _ σ H _ _ s e1 fun v1 H1 x1 r1 => ?_
      obtain rfl := rInt (mg := X.vm) (H := H1) r1
      have s1 := s.ext x1
      have hb3 : H1 b = some (.lst us) := x1 b _ hb2
      obtain ⟨w1, ew, rw1⟩ := flat_parts (rl.ext x1) ex
      obtain rfl := rInt rw1
      have hul := rl.length
      refine ⟨b, us, k, .int x', rfl, rfl, SqL.of hb3, by unfold atI; rw [hul, et]; exact ew, ?_⟩
      refine ke P g _ σ H1 _ _ s1 e2 fun v2 H2 x2 r2 => ?_
      obtain rfl := rInt (mg := X.vm) (H := H2) r2
      refine ⟨x', y', rfl, rfl, ?_⟩
      have hb4 : H2 b = some (.lst us) := x2 b _ hb3
      have tl : t < zs.length := (ixN_seq et).2.1
      refine ⟨b, us, k, t, rfl, rfl, hb4, by rw [hul]; exact et, ?_⟩
      refine w H2 (us.set t (.int (x' + y'))) (zs.set t (.int (x' + y'))) (x1.trans x2) rfl (repL_set0 ?_ ((rl.ext x1).ext x2) tl)
      simp [Rep]
    · cases hz
  · cases hz
end
end VV

/-! ## VOwnG -/
/-! two places of a row changed about; rows of a tree of its own set, changed about -/
namespace VV
open PySem PySem.Spec PyProof.Rows L2
/-! ### lists whose parts stand apart -/
theorem repL_repS {mg : Mg} {H : Hp} : ∀ {ds : List D} {vs : List V} {f : List Addr}, RepL mg H ds vs f → ∃ fs, RepS (Rep mg H) ds vs fs ∧ f = fs.flatten
  | [], vs, f, h => by
    simp only [RepL] at h
    obtain ⟨rfl, rfl⟩ := h
    exact ⟨[], trivial, rfl⟩
  | d :: ds, vs, f, h => by
    simp only [RepL] at h
    obtain ⟨v, r, f1, f2, rfl, h1, h2, rfl⟩ := h
    obtain ⟨fs, g1, rfl⟩ := repL_repS h2
    exact ⟨f1 :: fs, ⟨h1, g1⟩, by simp⟩
theorem repS_put {R : D → V → List Addr → Prop} {z : D} {y : V} {f : List Addr} (hR : R z y f) : ∀ {ds : List D} {vs : List V} {fs : List (List Addr)} (j : Nat), RepS R ds vs fs → RepS R (ds.set j z) (vs.set j y) (fs.set j f)
  | [], [], [], _, h => h
  | _ :: _, _ :: _, _ :: _, 0, h => ⟨hR, h.2⟩
  | _ :: _, _ :: _, _ :: _, j + 1, h => ⟨h.1, repS_put hR j h.2⟩
  | [], _ :: _, _, _, h => h.elim
  | [], [], _ :: _, _, h => h.elim
  | _ :: _, [], _, _, h => h.elim
  | _ :: _, _ :: _, [], _, h => h.elim
theorem repL_swap {mg : Mg} {H : Hp} {ds : List D} {vs : List V} {f : List Addr} {i j : Nat} {a b : D} (h : RepL mg H ds vs f) (ha : ds[i]? = some a) (hb : ds[j]? = some b) :
    ∃ va vb f', vs[i]? = some va ∧ vs[j]? = some vb ∧ RepL mg H ((ds.set i b).set j a) ((vs.set i vb).set j va) f' ∧ f'.Perm f := by
  obtain ⟨fs, hs, rfl⟩ := repL_repS h
  obtain ⟨va, fa, h1, h2, h3⟩ := hs.at_ ha
  obtain ⟨vb, fb, h4, h5, h6⟩ := hs.at_ hb
  refine ⟨va, vb, _, h1, h4, repS_repL (repS_put h3 j (repS_put h6 i hs)), ?_⟩
  have hi : i < fs.length := (List.getElem?_eq_some_iff.mp h2).1
  have hj : j < fs.length := (List.getElem?_eq_some_iff.mp h5).1
  have e1 : fs[i] = fa := (List.getElem?_eq_some_iff.mp h2).2
  have e2 : fs[j] = fb := (List.getElem?_eq_some_iff.mp h5).2
  subst e1 e2
  exact (List.set_set_perm hi hj).flatten
section
variable {X : Cx} {W : L2.WX} {sc : Sc} {Γ : List Kd} {LL : List Nat} {pos tpos bpos : Pos}
theorem flat_int {mg : Mg} {P : Fm} {g : Addr → Nat} {ρ : List D} {σ : L2.St} {H : Hp} (s : Sta mg P LL Γ g ρ σ H) {i : Nat} {k : Int} (hk : Γ[i]? = some .flat) (h : ρ[i]? = some (.int k)) : σ[i]? = some (some (.int k)) := by
  obtain ⟨d, ov, h1, h2, v, rfl, r⟩ := s.cells.get hk
  rw [h] at h1; cases h1
  rw [rInt r] at h2
  exact h2
/-- two values, one tuple of them -/
theorem row_swp {i : Nat} {x y p q : Str} {px py p1 p2 p3 p4 p5 p6 p7 p8 s1 s2 s3 s4 t1 t2 : Pos} {c1 c2 : Nat} {fl : Bool} {n : Nat} {L : List Nat} (j ip iq : Nat) (hk : Γ[i]? = some (.ow fl n L)) (hkp : Γ[ip]? = some .flat) (hkq : Γ[iq]? = some .flat) (hij : i ≠ j ∧ ip ≠ i ∧ iq ≠ i ∧ ip ≠ j ∧ iq ≠ j := by decide) (hj : j < Γ.length := by decide) (hc : X.calm = true) (hp : PassesOwn (model X.prog X.w) X.A X.env X.xe)
    (hN : X.N.Nodup) (hx : X.N[i]? = some x) (hv : Vis X.env.scope x) (hy : X.N[j]? = some y) (hyl : L2.Loc X.env.scope y) (hyv : Vis X.env.scope y) (hNp : X.N[ip]? = some p) (hNq : X.N[iq]? = some q) (hvp : Vis X.env.scope p) (hvq : Vis X.env.scope q)
    (hyf : X.fn y = true ∨ X.env.scope.names.lookup y = some .local := by first | exact .inl rfl | exact .inr rfl | assumption)
    (hL : (n ≠ 0 ∧ n ∉ sc.LL ∧ n ∉ L) ∧ ∀ l ∈ L, l ≠ 0 ∧ l ∉ sc.LL := by decide)
    (hdb : (x == ("__debug__" : Str)) = false := by decide) (hcd : (x == ("__classdict__" : Str)) = false := by decide) (hdy : (y == ("__debug__" : Str)) = false := by decide) (hcy : (y == ("__classdict__" : Str)) = false := by decide)
    (hdp : (p == ("__debug__" : Str)) = false := by decide) (hcp : (p == ("__classdict__" : Str)) = false := by decide) (hdq : (q == ("__debug__" : Str)) = false := by decide) (hcq : (q == ("__classdict__" : Str)) = false := by decide) (hfs : ∀ z, foldedSetIterable (.Name x px) X.env z = pure z := by intro _; rfl)
    (ha1 : ∀ v, assign (.Subscript (.Name y p5) (.Name p p6) s3) X.env v = (do
      let ov ← holding [v] (eval (.Name y p5) X.env)
      let iv ← holding [v, ov] (eval (.Name p p6) X.env)
      standAt s3
      holding [v, ov, iv] (setItem ov iv v)
      release [v, ov, iv] []) := by intro _; rfl)
    (ha2 : ∀ v, assign (.Subscript (.Name y p7) (.Name q p8) s4) X.env v = (do
      let ov ← holding [v] (eval (.Name y p7) X.env)
      let iv ← holding [v, ov] (eval (.Name q p8) X.env)
      standAt s4
      holding [v, ov, iv] (setItem ov iv v)
      release [v, ov, iv] []) := by intro _; rfl)
    (hv1 : starEach [.Subscript (.Name y p1) (.Name q p2) s1, .Subscript (.Name y p3) (.Name p p4) s2] X.env = (false, eval (.Subscript (.Name y p1) (.Name q p2) s1) X.env) :: starEach [.Subscript (.Name y p3) (.Name p p4) s2] X.env := by rfl)
    (hv2 : starEach [.Subscript (.Name y p3) (.Name p p4) s2] X.env = (false, eval (.Subscript (.Name y p3) (.Name p p4) s2) X.env) :: starEach [] X.env := by rfl)
    (hs : swapsWithSole [.Tuple [.Subscript (.Name y p5) (.Name p p6) s3, .Subscript (.Name y p7) (.Name q p8) s4] c1 t1] (.Tuple [.Subscript (.Name y p1) (.Name q p2) s1, .Subscript (.Name y p3) (.Name p p4) s2] c2 t2) pos.line X.env = pure false := by rfl)
    (hw : swappedStores [.Tuple [.Subscript (.Name y p5) (.Name p p6) s3, .Subscript (.Name y p7) (.Name q p8) s4] c1 t1] (.Tuple [.Subscript (.Name y p1) (.Name q p2) s1, .Subscript (.Name y p3) (.Name p p4) s2] c2 t2) X.env = pure none := by rfl)
    (hae : (assignEach [.Tuple [.Subscript (.Name y p5) (.Name p p6) s3, .Subscript (.Name y p7) (.Name q p8) s4] c1 t1] X.env).map (·.2) = [assign (.Tuple [.Subscript (.Name y p5) (.Name p p6) s3, .Subscript (.Name y p7) (.Name q p8) s4] c1 t1) X.env] := by rfl)
    (hs1 : (assignEach [.Subscript (.Name y p5) (.Name p p6) s3, .Subscript (.Name y p7) (.Name q p8) s4] X.env).map (·.2) = assign (.Subscript (.Name y p5) (.Name p p6) s3) X.env :: (assignEach [.Subscript (.Name y p7) (.Name q p8) s4] X.env).map (·.2) := by rfl)
    (hs2 : (assignEach [.Subscript (.Name y p7) (.Name q p8) s4] X.env).map (·.2) = assign (.Subscript (.Name y p7) (.Name q p8) s4) X.env :: (assignEach [] X.env).map (·.2) := by rfl)
    (hst : (assignEach [.Subscript (.Name y p5) (.Name p p6) s3, .Subscript (.Name y p7) (.Name q p8) s4] X.env).findIdx? (·.1) = none := by rfl) (hl : (assignEach [.Subscript (.Name y p5) (.Name p p6) s3, .Subscript (.Name y p7) (.Name q p8) s4] X.env).length = 2 := by rfl)
    (hx1 : PlainIx (.Name q p2) := by first | decide | (intro _ _; rfl)) (hx2 : PlainIx (.Name p p4) := by first | decide | (intro _ _; rfl)) :
    SX X W sc Γ (.For (.Name y py) (.Name x px) [.Assign [.Tuple [.Subscript (.Name y p5) (.Name p p6) s3, .Subscript (.Name y p7) (.Name q p8) s4] c1 t1] (.Tuple [.Subscript (.Name y p1) (.Name q p2) s1, .Subscript (.Name y p3) (.Name p p4) s2] c2 t2) pos] [] tpos) (sOEach i (rowSwp j ip iq)) (((killO (n :: L) Γ).set j .dead).set i (.ow fl n L)) := by
  obtain ⟨hij, hpi, hqi, hpj, hqj⟩ := hij
  have vy : PE X (.Name y p1) (tVar j) := pe_var hy hyv hdy hcy
  refine sx_oeach hk hij hj hc hp hN hx hv hy hyl hyf (ps_asg (pe_tup (pa_cons (pe_ix ix_list (pe_var hy hyv hdy hcy) (pe_var hNq hvq hdq hcq) hx1) (pa_cons (pe_ix ix_list (pe_var hy hyv hdy hcy) (pe_var hNp hvp hdp hcp) hx2) pa_nil hv2) hv1))
    (pg_tup hc (pgs_cons (pg_sub (pe_var hy hyv hdy hcy) (pe_var hNp hvp hdp hcp) L2.set_list ha1) (pgs_cons (pg_sub (pe_var hy hyv hdy hcy) (pe_var hNq hvq hdq hcq) L2.set_list ha2) pgs_nil hs2) hs1) hl hst) hs hw hae) (fun P g ρ σ H b us zs z D s hb1 hb2 rl hz w => ?_) hL hdb hcd hfs
  unfold rowSwp at hz
  dsimp only at hz
  split at hz
  · rename_i k1 k2 e1 e2
    obtain ⟨t, et, hz⟩ := Option.bind_eq_some_iff.mp hz
    obtain ⟨u, eu, hz⟩ := Option.bind_eq_some_iff.mp hz
    split at hz
    · rename_i da db ea eb
      cases hz
      have hkE : ∀ m, m ≠ i → m ≠ j → Γ[m]? = some .flat → (eachΓ n L i j Γ)[m]? = some .flat := fun m h1 h2 h3 => by
        rw [List.getElem?_set_ne (Ne.symm h2), List.getElem?_set_ne (Ne.symm h1)]
        unfold killO
        rw [List.getElem?_map, h3]
        simp only [Option.map_some]
        rw [if_neg]
        intro z
        obtain ⟨l, _, q⟩ := List.any_eq_true.mp z
        cases q
      have vp := flat_int s (hkE ip hpi hpj hkp) e1
      have vq := flat_int s (hkE iq hqi hqj hkq) e2
      have hul := rl.length
      obtain ⟨va, vb, f', hva, hvb, rl', pf⟩ := repL_swap rl ea eb
      have hf' : f' = [] := pf.eq_nil
      subst hf'
      have au : atI us k2 = some vb := by unfold atI; rw [hul, eu]; exact hvb
      have at' : atI us k1 = some va := by unfold atI; rw [hul, et]; exact hva
      refine ⟨.ref b, hb1, .int k2, vq, b, us, k2, vb, rfl, rfl, SqL.of hb2, au, ?_⟩
      refine ⟨.ref b, hb1, .int k1, vp, b, us, k1, va, rfl, rfl, SqL.of hb2, at', ?_⟩
      refine ⟨by show 2 ≤ sizeLine; decide, fun c hc0 => ?_⟩
      have hbc : b ≠ c := fun z => by rw [z, hc0] at hb2; cases hb2
      have x1 : Ext H (upd H c (.tup [vb, va])) := Ext.put hc0
      have hb3 : upd H c (.tup [vb, va]) b = some (.lst us) := x1 b _ hb2
      refine ⟨c, [vb, va], rfl, .inl (.inl upd_same), rfl, ?_⟩
      refine ⟨vb, [va], rfl, .ref b, hb1, .int k1, vp, b, us, k1, t, rfl, rfl, hb3, by rw [hul]; exact et, ?_⟩
      refine ⟨va, [], rfl, .ref b, hb1, .int k2, vq, b, us.set t vb, k2, u, rfl, rfl, upd_same, by rw [List.length_set, hul]; exact eu, ?_⟩
      refine ⟨rfl, ?_⟩
      rw [upd_upd]
      exact w _ ((us.set t vb).set u va) ((zs.set t db).set u da) x1 rfl (rl'.ext x1)
    · cases hz
  · cases hz
end
end VV
namespace VV
open PySem PySem.Spec PyProof.Rows L2
section
variable {X : Cx} {W : L2.WX} {sc : Sc} {Γ : List Kd} {LL : List Nat} {pos : Pos}
/-! ### rows[j] = a new list -/
theorem sx_olput {i : Nat} {x : Str} {px pos' : Pos} {e j : Expr} {se sj : Ev} {m : Md} {fl : Bool} {n : Nat} {L : List Nat} (c : Nat) (hk : Γ[i]? = some (.ow fl n L)) (hN : X.N[i]? = some x) (hv : Vis X.env.scope x)
    (he : EX X sc.LL Γ e se m) (hj : EX X sc.LL Γ j sj .flat) (hm : m.nw = true := by rfl) (hS : owNums sc.LL c n L := by decide) (hdb : (x == ("__debug__" : Str)) = false := by decide) (hcd : (x == ("__classdict__" : Str)) = false := by decide)
    (ha : ∀ v, assign (.Subscript (.Name x px) j pos') X.env v = (do
      let ov ← holding [v] (eval (.Name x px) X.env)
      let iv ← holding [v, ov] (eval j X.env)
      standAt pos'
      holding [v, ov, iv] (setItem ov iv v)
      release [v, ov, iv] []) := by intro _; rfl)
    (hs : swapsWithSole [.Subscript (.Name x px) j pos'] e pos.line X.env = pure false := by rfl) (hw : swappedStores [.Subscript (.Name x px) j pos'] e X.env = pure none := by rfl)
    (h1 : (assignEach [.Subscript (.Name x px) j pos'] X.env).map (·.2) = [assign (.Subscript (.Name x px) j pos') X.env] := by rfl) :
    SX X W sc Γ (.Assign [.Subscript (.Name x px) j pos'] e pos) (sPut lPut i sj se) ((killO (n :: L) Γ).set i (.ow fl n (c :: L))) := by
  obtain ⟨t, pt, kk⟩ := he
  obtain ⟨tj, pj, kj⟩ := hj
  refine ⟨_, ps_asg pt (pg_sub (pe_var hN hv hdb hcd) pj L2.set_list ha) hs hw h1, fun P g ρ σ H o De s e w => ?_⟩
  obtain ⟨d, e1, e⟩ := bind_some e
  obtain ⟨xk, e2, e⟩ := bind_some e
  obtain ⟨dd, e3, e⟩ := bind_some e
  obtain ⟨z, e4, e⟩ := bind_some e
  cases e
  obtain ⟨d0, a, f, h1, h2, r, nd, main⟩ := ow_call (c := c) s hk hS
  rw [e3] at h1; cases h1
  unfold lPut at e4
  split at e4
  · rename_i l k eq0
    simp only [Option.map_eq_some_iff] at e4
    obtain ⟨jj, ej, rfl⟩ := e4
    simp only [Rep] at r
    obtain ⟨a', vs, f', ea, ha0, rl, ef⟩ := r
    cases ea
    obtain rfl : f = f' := by simpa using ef
    obtain ⟨⟨r0, mu0⟩, fin⟩ := main H Ext.refl
    refine kk P g ρ σ H _ _ s e1 fun y H2 x2 wv => ?_
    refine ⟨.ref a, h2, ?_⟩
    refine kj P g ρ σ H2 _ _ (s.ext x2) e2 fun yk H3 x3 wk => ?_
    obtain rfl := rInt (mg := X.vm) (H := H3) wk
    have x23 := x2.trans x3
    have ho3 : H3 a = some (.lst vs) := x23 a _ ha0
    obtain ⟨fy, ry, hnew, ndy⟩ := wv.fresh hm
    have hjl : jj < l.length := (ixN_seq ej).2.1
    refine ⟨a, vs, k, jj, rfl, rfl, ho3, by rw [rl.length]; exact ej, ?_⟩
    obtain ⟨f3, g1, g2, g3⟩ := repL_set (ry.ext x3) (rl.ext x23) hjl
    obtain ⟨haf, ndf⟩ := List.nodup_cons.mp nd
    have hH : ∀ b ∈ a :: f, H b ≠ none := fun b hb z => by have := mu0 b hb; rw [z] at this; exact this
    have hay : a ∉ fy := fun hm' => hH a List.mem_cons_self (hnew a hm').1
    have haf3 : a ∉ f3 := fun z => (g2 a z).elim haf hay
    have af : AftO X.vm H (upd H3 a (.lst (vs.set jj y))) a f (.lst (l.set jj d)) f3 := by
      refine ⟨fun b o hb hH' => ?_, fun b hb => ?_, ?_, List.nodup_cons.mpr ⟨haf3, g3 ndf ndy fun b hb hb' => hH b (List.mem_cons_of_mem _ hb) (hnew b hb').1⟩, fun b hb => ?_, fun b hb => (g2 b hb).imp id fun z => (hnew b z).1⟩
      · have : b ≠ a := fun z => hb (by simp [z])
        rw [upd_ne this]; exact x23 b _ hH'
      · by_cases z : b = a
        · subst z; rw [upd_same]; simp
        · rw [upd_ne z]
          cases q : H b with
          | none => exact absurd q hb
          | some u => rw [x23 b u q]; simp
      · simp only [Rep]
        exact ⟨a, _, f3, rfl, upd_same, repL_upd g1 haf3 ho3 trivial, rfl⟩
      · rcases List.mem_cons.mp hb with rfl | hb
        · rw [upd_same]; trivial
        · have hba : b ≠ a := fun z => haf3 (z ▸ hb)
          rw [upd_ne hba]
          rcases g2 b hb with q | q
          · exact mut_of (mu0 b (List.mem_cons_of_mem _ q)) fun u hu => x23 b u hu
          · exact mut_of (hnew b q).2 fun u hu => x3 b u hu
    obtain ⟨g', st, sta⟩ := fin _ _ _ af
    exact w g' σ _ st sta
  · cases e4
/-! ### rows[p], rows[q] = rows[q], rows[p] -/
def sOSwap (i p q : Nat) : Sv := fun ρ => match ρ[i]?, ρ[p]?, ρ[q]? with
  | some (.lst l), some (.int x), some (.int y) => (ixN l.length x).bind fun t => (ixN l.length y).bind fun u => match l[t]?, l[u]? with
    | some a, some b => some (.nx (ρ.set i (.lst ((l.set t b).set u a))))
    | _, _ => none
  | _, _, _ => none
theorem sx_oswap {i : Nat} {y p q : Str} {p1 p2 p3 p4 p5 p6 p7 p8 s1 s2 s3 s4 t1 t2 : Pos} {c1 c2 : Nat} {fl : Bool} {n : Nat} {L : List Nat} (c ip iq : Nat) (hk : Γ[i]? = some (.ow fl n L)) (hkp : Γ[ip]? = some .flat) (hkq : Γ[iq]? = some .flat) (hc : X.calm = true)
    (hy : X.N[i]? = some y) (hyv : Vis X.env.scope y) (hNp : X.N[ip]? = some p) (hNq : X.N[iq]? = some q) (hvp : Vis X.env.scope p) (hvq : Vis X.env.scope q) (hS : owNums sc.LL c n L := by decide)
    (hdy : (y == ("__debug__" : Str)) = false := by decide) (hcy : (y == ("__classdict__" : Str)) = false := by decide)
    (hdp : (p == ("__debug__" : Str)) = false := by decide) (hcp : (p == ("__classdict__" : Str)) = false := by decide) (hdq : (q == ("__debug__" : Str)) = false := by decide) (hcq : (q == ("__classdict__" : Str)) = false := by decide)
    (ha1 : ∀ v, assign (.Subscript (.Name y p5) (.Name p p6) s3) X.env v = (do
      let ov ← holding [v] (eval (.Name y p5) X.env)
      let iv ← holding [v, ov] (eval (.Name p p6) X.env)
      standAt s3
      holding [v, ov, iv] (setItem ov iv v)
      release [v, ov, iv] []) := by intro _; rfl)
    (ha2 : ∀ v, assign (.Subscript (.Name y p7) (.Name q p8) s4) X.env v = (do
      let ov ← holding [v] (eval (.Name y p7) X.env)
      let iv ← holding [v, ov] (eval (.Name q p8) X.env)
      standAt s4
      holding [v, ov, iv] (setItem ov iv v)
      release [v, ov, iv] []) := by intro _; rfl)
    (hv1 : starEach [.Subscript (.Name y p1) (.Name q p2) s1, .Subscript (.Name y p3) (.Name p p4) s2] X.env = (false, eval (.Subscript (.Name y p1) (.Name q p2) s1) X.env) :: starEach [.Subscript (.Name y p3) (.Name p p4) s2] X.env := by rfl)
    (hv2 : starEach [.Subscript (.Name y p3) (.Name p p4) s2] X.env = (false, eval (.Subscript (.Name y p3) (.Name p p4) s2) X.env) :: starEach [] X.env := by rfl)
    (hs : swapsWithSole [.Tuple [.Subscript (.Name y p5) (.Name p p6) s3, .Subscript (.Name y p7) (.Name q p8) s4] c1 t1] (.Tuple [.Subscript (.Name y p1) (.Name q p2) s1, .Subscript (.Name y p3) (.Name p p4) s2] c2 t2) pos.line X.env = pure false := by rfl)
    (hw : swappedStores [.Tuple [.Subscript (.Name y p5) (.Name p p6) s3, .Subscript (.Name y p7) (.Name q p8) s4] c1 t1] (.Tuple [.Subscript (.Name y p1) (.Name q p2) s1, .Subscript (.Name y p3) (.Name p p4) s2] c2 t2) X.env = pure none := by rfl)
    (hae : (assignEach [.Tuple [.Subscript (.Name y p5) (.Name p p6) s3, .Subscript (.Name y p7) (.Name q p8) s4] c1 t1] X.env).map (·.2) = [assign (.Tuple [.Subscript (.Name y p5) (.Name p p6) s3, .Subscript (.Name y p7) (.Name q p8) s4] c1 t1) X.env] := by rfl)
    (hs1 : (assignEach [.Subscript (.Name y p5) (.Name p p6) s3, .Subscript (.Name y p7) (.Name q p8) s4] X.env).map (·.2) = assign (.Subscript (.Name y p5) (.Name p p6) s3) X.env :: (assignEach [.Subscript (.Name y p7) (.Name q p8) s4] X.env).map (·.2) := by rfl)
    (hs2 : (assignEach [.Subscript (.Name y p7) (.Name q p8) s4] X.env).map (·.2) = assign (.Subscript (.Name y p7) (.Name q p8) s4) X.env :: (assignEach [] X.env).map (·.2) := by rfl)
    (hst : (assignEach [.Subscript (.Name y p5) (.Name p p6) s3, .Subscript (.Name y p7) (.Name q p8) s4] X.env).findIdx? (·.1) = none := by rfl) (hl : (assignEach [.Subscript (.Name y p5) (.Name p p6) s3, .Subscript (.Name y p7) (.Name q p8) s4] X.env).length = 2 := by rfl)
    (hx1 : PlainIx (.Name q p2) := by first | decide | (intro _ _; rfl)) (hx2 : PlainIx (.Name p p4) := by first | decide | (intro _ _; rfl)) :
    SX X W sc Γ (.Assign [.Tuple [.Subscript (.Name y p5) (.Name p p6) s3, .Subscript (.Name y p7) (.Name q p8) s4] c1 t1] (.Tuple [.Subscript (.Name y p1) (.Name q p2) s1, .Subscript (.Name y p3) (.Name p p4) s2] c2 t2) pos) (sOSwap i ip iq) ((killO (n :: L) Γ).set i (.ow fl n (c :: L))) := by
  refine ⟨_, ps_asg (pe_tup (pa_cons (pe_ix ix_list (pe_var hy hyv hdy hcy) (pe_var hNq hvq hdq hcq) hx1) (pa_cons (pe_ix ix_list (pe_var hy hyv hdy hcy) (pe_var hNp hvp hdp hcp) hx2) pa_nil hv2) hv1))
    (pg_tup hc (pgs_cons (pg_sub (pe_var hy hyv hdy hcy) (pe_var hNp hvp hdp hcp) L2.set_list ha1) (pgs_cons (pg_sub (pe_var hy hyv hdy hcy) (pe_var hNq hvq hdq hcq) L2.set_list ha2) pgs_nil hs2) hs1) hl hst) hs hw hae, fun P g ρ σ H o De s e w => ?_⟩
  unfold sOSwap at e
  split at e
  · rename_i l k1 k2 e0 e1 e2
    obtain ⟨t, et, e⟩ := Option.bind_eq_some_iff.mp e
    obtain ⟨u, eu, e⟩ := Option.bind_eq_some_iff.mp e
    split at e
    · rename_i da db ea eb
      cases e
      obtain ⟨d0, a, f, h1, h2, r, nd, main⟩ := ow_call (c := c) s hk hS
      rw [e0] at h1; cases h1
      obtain ⟨⟨r0, mu0⟩, fin⟩ := main H Ext.refl
      simp only [Rep] at r
      obtain ⟨a', vs, f', eaa, ha0, rl, ef⟩ := r
      cases eaa
      obtain rfl : f = f' := by simpa using ef
      have vp := flat_int s hkp e1
      have vq := flat_int s hkq e2
      have hul := rl.length
      obtain ⟨va, vb, f2, hva, hvb, rl', pf⟩ := repL_swap rl ea eb
      have au : atI vs k2 = some vb := by unfold atI; rw [hul, eu]; exact hvb
      have at' : atI vs k1 = some va := by unfold atI; rw [hul, et]; exact hva
      refine ⟨.ref a, h2, .int k2, vq, a, vs, k2, vb, rfl, rfl, SqL.of ha0, au, ?_⟩
      refine ⟨.ref a, h2, .int k1, vp, a, vs, k1, va, rfl, rfl, SqL.of ha0, at', ?_⟩
      refine ⟨by show 2 ≤ sizeLine; decide, fun b hb0 => ?_⟩
      have hab : a ≠ b := fun z => by rw [z, hb0] at ha0; cases ha0
      have x1 : Ext H (upd H b (.tup [vb, va])) := Ext.put hb0
      have ha3 : upd H b (.tup [vb, va]) a = some (.lst vs) := x1 a _ ha0
      refine ⟨b, [vb, va], rfl, .inl (.inl upd_same), rfl, ?_⟩
      refine ⟨vb, [va], rfl, .ref a, h2, .int k1, vp, a, vs, k1, t, rfl, rfl, ha3, by rw [hul]; exact et, ?_⟩
      refine ⟨va, [], rfl, .ref a, h2, .int k2, vq, a, vs.set t vb, k2, u, rfl, rfl, upd_same, by rw [List.length_set, hul]; exact eu, ?_⟩
      refine ⟨rfl, ?_⟩
      rw [upd_upd]
      obtain ⟨haf, ndf⟩ := List.nodup_cons.mp nd
      have haf2 : a ∉ f2 := fun z => haf (pf.mem_iff.mp z)
      have af : AftO X.vm H (upd (upd H b (.tup [vb, va])) a (.lst ((vs.set t vb).set u va))) a f (.lst ((l.set t db).set u da)) f2 := by
        refine ⟨fun x o hx hH' => ?_, fun x hx => ?_, ?_, List.nodup_cons.mpr ⟨haf2, pf.nodup_iff.mpr ndf⟩, fun x hx => ?_, fun x hx => .inl (pf.mem_iff.mp hx)⟩
        · have : x ≠ a := fun z => hx (by simp [z])
          rw [upd_ne this]; exact x1 x _ hH'
        · by_cases z : x = a
          · subst z; rw [upd_same]; simp
          · rw [upd_ne z]
            cases q : H x with
            | none => exact absurd q hx
            | some u => rw [x1 x u q]; simp
        · simp only [Rep]
          exact ⟨a, _, f2, rfl, upd_same, repL_upd (rl'.ext x1) haf2 ha3 trivial, rfl⟩
        · rcases List.mem_cons.mp hx with rfl | hx
          · rw [upd_same]; trivial
          · have hxa : x ≠ a := fun z => haf2 (z ▸ hx)
            rw [upd_ne hxa]
            exact mut_of (mu0 x (List.mem_cons_of_mem _ (pf.mem_iff.mp hx))) fun u hu => x1 x u hu
      obtain ⟨g', st, sta⟩ := fin _ _ _ af
      exact w g' σ _ st sta
    · cases e
  · cases e
end
end VV

/-! ## VFdiv -/
/-! // and % by numbers of either sign -/
namespace VV
open PySem PySem.Spec PyProof.Rows L2
def CDivZ (_ j : Int) : Prop := j ≠ 0 ∧ j.natAbs.log2 < 9000
instance : DecidableRel CDivZ := fun _ _ => inferInstanceAs (Decidable (_ ∧ _))
def CNz (_ j : Int) : Prop := j ≠ 0
instance : DecidableRel CNz := fun _ _ => inferInstanceAs (Decidable (_ ≠ _))
theorem op_fdivZ {X : Cx} : OpR X (binaryOp .FloorDiv) (rI CDivZ fun i j => .int (i.fdiv j)) := opI fun i j _ _ _ _ _ hc q => floordiv_int hc.1 q (.inl (PyProof.noPylong_of_log2 hc.2))
def dDivF := dII CDivZ fun i j => i.fdiv j
def dModF := dII CNz fun i j => i.fmod j
theorem dDivF_s {x y : Int} (h : CDivZ x y) : dDivF [.int x, .int y] = some (.int (x.fdiv y)) := if_pos h
theorem dModF_s {x y : Int} (h : y ≠ 0) : dModF [.int x, .int y] = some (.int (x.fmod y)) := if_pos h
section
variable {X : Cx} {LL : List Nat} {Γ : List Kd} {pos : Pos} {a b : Expr} {sa sb : Ev} {ma mb : Md}
theorem ex_divF (ha : EX X LL Γ a sa ma) (hb : EX X LL Γ b sb mb) : EX X LL Γ (.BinOp a .FloorDiv b pos) (eP dDivF (aCons sa (aCons sb aNil))) .flat := ex_bin op_fdivZ cp_ii ha hb
theorem ex_modF (ha : EX X LL Γ a sa ma) (hb : EX X LL Γ b sb mb) : EX X LL Γ (.BinOp a .Mod b pos) (eP dModF (aCons sa (aCons sb aNil))) .flat := ex_bin (op_modN (X := X)) (cp_ii (C := CNz)) ha hb
end
end VV

/-! ## VFdefs3 -/
/-! the program's leads and the law's own, as trees -/
namespace VP
open PySem PySem.Spec PyProof.Rows L2 VV
end VP

/-! ## VFdefs4 -/
/-! words and tables, as trees -/
namespace VP
open PySem PySem.Spec PyProof.Rows L2 VV
end VP

/-! ## VQdefs -/
namespace VQ
open PySem PySem.Spec PyProof.Rows L2 VV VP

end VQ

/-! ## VQdefs2 -/
namespace VQ
open PySem PySem.Spec PyProof.Rows L2 VV VP

end VQ

/-! ## VQdefs3 -/
/-! where words of known tuples lead, tables due, as trees -/
namespace VQ
open PySem PySem.Spec PyProof.Rows L2 VV
open VP
end VQ

/-! ## VQdefs4 -/
/-! the trees of the class Sheet (printed) -/
namespace VQ
open PySem PySem.Spec PyProof.Rows L2 VV VP
end VQ

/-! ## VQdefs5 -/
/-! the trees of is_drawing, named_anew and closing (printed) -/
namespace VQ
open PySem PySem.Spec PyProof.Rows L2 VV VP
end VQ

/-! ## VQdefs6 -/
/-! the trees of the laws own flat (printed) -/
namespace VQ
open PySem PySem.Spec PyProof.Rows L2 VV VP
end VQ

/-! ## VQdefs7 -/
/-! the tree of the laws own _law_same (printed) -/
namespace VQ
open PySem PySem.Spec PyProof.Rows L2 VV VP
end VQ

/-! ## VQdefs8 -/
/-! the trees of beside (printed) -/
namespace VQ
open PySem PySem.Spec PyProof.Rows L2 VV VP
end VQ

/-! ## VQdefs9 -/
/-! the trees of mirrored, turned_about (printed) -/
namespace VQ
open PySem PySem.Spec PyProof.Rows L2 VV VP
end VQ

/-! ## VQdefs10 -/
/-! the trees of strand_at, _law_begins, _law_slide, parts of strands_of, slid, face_at (printed by mkdefs10.py) -/
namespace VQ
open PySem PySem.Spec PyProof.Rows L2 VV VP
end VQ

/-! ## K42s -/
namespace K42
open PySem PySem.Spec PyProof.Rows L2 VV VP

def m__law_numbers_b1_1 : Sv := (sMut dPush 2 (eChk D.isFlat (eP dIdx (aCons (eVar 5) (aCons (eP dMod (aCons (eVar 4) (aCons (eC (.int 8)) aNil))) aNil)))))
def m__law_numbers_b1 : Sv := (sSeq (sSet 5 (eLst (aCons (eC (.int 1)) (aCons (eP dAdd (aCons (eC (.int 1)) (aCons (eP dMod (aCons (eP dDiv (aCons (eVar 4) (aCons (eC (.int 8)) aNil))) (aCons (eC (.int 30)) aNil))) aNil))) (aCons (eC (.int 2)) (aCons (eP dAdd (aCons (eC (.int 1)) (aCons (eP dMod (aCons (eP dDiv (aCons (eVar 4) (aCons (eC (.int 8)) aNil))) (aCons (eC (.int 720)) aNil))) aNil))) (aCons (eP dAdd (aCons (eC (.int 1)) (aCons (eP dDiv (aCons (eVar 4) (aCons (eC (.int 8)) aNil))) aNil))) (aCons (eP dAdd (aCons (eC (.int 1)) (aCons (eP dMod (aCons (eP dDiv (aCons (eVar 4) (aCons (eC (.int 8)) aNil))) (aCons (eC (.int 12)) aNil))) aNil))) (aCons (eC (.int 6)) (aCons (eC (.int 900)) aNil)))))))))) m__law_numbers_b1_1)
def m__law_numbers_1 : Sv := (sSeq (sFor (iEnumL (eChk D.kidsFlat (eCall f__law_row (aCons (eVar 0) (aCons (eVar 1) (aCons (eC (.int 1000000000000)) aNil)))))) (gT (gsCons (gF (gN 3)) (gsCons (gF (gN 4)) gsNil))) m__law_numbers_b1) (sRet (eVar 2)))
def m__law_numbers : Sv := (sSeq (sSet 2 (eLst aNil)) m__law_numbers_1)
def f__law_numbers : List D → Option Res := fnSem 6 [.flat, .flat] m__law_numbers
def m__law_common_b1 : Sv := (sPar 0 1 (aCons (eVar 1) (aCons (eP dMod (aCons (eVar 0) (aCons (eVar 1) aNil))) aNil)))
def m__law_common : Sv := (sSeq (sWhile (tOf (eP dGt (aCons (eVar 1) (aCons (eC (.int 0)) aNil)))) m__law_common_b1) (sRet (eVar 0)))
def f__law_common : List D → Option Res := fnSem 2 [.flat, .flat] m__law_common
def m__law_gathered_b2_3 : Sv := (sPut lPut 1 (eVar 2) (eVar 4))
def m__law_gathered_b2_2 : Sv := (sSeq (sPut lPut 1 (eVar 3) (eP dMul (aCons (eVar 5) (aCons (eChk D.isFlat (eP dIdx (aCons (eVar 1) (aCons (eVar 3) aNil)))) aNil)))) m__law_gathered_b2_3)
def m__law_gathered_b2_1 : Sv := (sSeq (sSet 5 (eP dDiv (aCons (eChk D.isFlat (eP dIdx (aCons (eVar 1) (aCons (eVar 2) aNil)))) (aCons (eVar 4) aNil)))) m__law_gathered_b2_2)
def m__law_gathered_b2 : Sv := (sSeq (sSet 4 (eCall f__law_common (aCons (eChk D.isFlat (eP dIdx (aCons (eVar 1) (aCons (eVar 2) aNil)))) (aCons (eChk D.isFlat (eP dIdx (aCons (eVar 1) (aCons (eVar 3) aNil)))) aNil)))) m__law_gathered_b2_1)
def m__law_gathered_b1 : Sv := (sFor (iRng (aCons (eP dAdd (aCons (eVar 2) (aCons (eC (.int 1)) aNil))) (aCons (eP dLen (aCons (eVar 1) aNil)) aNil))) (gN 3) m__law_gathered_b2)
def m__law_gathered_2 : Sv := (sRet (eLc (iLst (eVar 1)) (gF (gN 6)) (tOf (eP dGt (aCons (eVar 6) (aCons (eC (.int 1)) aNil)))) (eVar 6)))
def m__law_gathered_1 : Sv := (sSeq (sFor (iRng (aCons (eP dLen (aCons (eVar 1) aNil)) aNil)) (gN 2) m__law_gathered_b1) m__law_gathered_2)
def m__law_gathered : Sv := (sSeq (sSet 1 (eChk D.kidsFlat (eP dList (aCons (eVar 0) aNil)))) m__law_gathered_1)
def f__law_gathered : List D → Option Res := fnSem 7 [.lab none [0] false] m__law_gathered
def m_Form_init_e1 : Ev := (eChk D.kidsFlat (eP dList (aCons (eVar 2) aNil)))
def m_Form_init_6 : Sv := (sFld0 0 "Form" "right_back" (eP dIdx (aCons (eCall f_unit (aCons (eChk D.isFlat (eP dIdx (aCons (eVar 1) (aCons (eC (.int 1)) aNil)))) aNil)) (aCons (eC (.int 2)) aNil))))
def m_Form_init_5 : Sv := (sSeq (sFld0 0 "Form" "right" (eP dIdx (aCons (eCall f_unit (aCons (eChk D.isFlat (eP dIdx (aCons (eVar 1) (aCons (eC (.int 1)) aNil)))) aNil)) (aCons (eC (.int 2)) aNil)))) m_Form_init_6)
def m_Form_init_4 : Sv := (sSeq (sFld0 0 "Form" "left_back" (eP dIdx (aCons (eCall f_unit (aCons (eChk D.isFlat (eP dIdx (aCons (eVar 1) (aCons (eC (.int 0)) aNil)))) aNil)) (aCons (eC (.int 2)) aNil)))) m_Form_init_5)
def m_Form_init_3 : Sv := (sSeq (sFld0 0 "Form" "left" (eP dIdx (aCons (eCall f_unit (aCons (eChk D.isFlat (eP dIdx (aCons (eVar 1) (aCons (eC (.int 0)) aNil)))) aNil)) (aCons (eC (.int 2)) aNil)))) m_Form_init_4)
def m_Form_init_2 : Sv := (sSeq (sFld0 0 "Form" "rows" (eLc (iLst (eP dIdx (aCons (eVar 1) (aCons (eC (.int 2)) aNil)))) (gN 2) cYes m_Form_init_e1)) m_Form_init_3)
def m_Form_init_1 : Sv := (sSeq (sFld0 0 "Form" "wide" (eChk D.isFlat (eP dIdx (aCons (eVar 1) (aCons (eC (.int 1)) aNil))))) m_Form_init_2)
def m_Form_init : Sv := (sSeq (sFld0 0 "Form" "high" (eChk D.isFlat (eP dIdx (aCons (eVar 1) (aCons (eC (.int 0)) aNil))))) m_Form_init_1)
def f_Form_init : List D → Option D := initSem "Form" 3 [.lab none [0] false] m_Form_init
def m_Form_least_from_c1 : Sv := (sSet 2 (eTup (aCons (eVar 3) (aCons (eVar 4) aNil))))
def m_Form_least_from_b2_1 : Sv := (sIf (wAnd (tOf (eP dGt (aCons (eVar 5) (aCons (eC (.int 0)) aNil)))) (wOr (tOf (eP dIsN (aCons (eVar 2) (aCons (eC .non) aNil)))) (tOf (eP dLt (aCons (eVar 5) (aCons (eP dAbs (aCons (eChk D.isFlat (eP dIdx (aCons (eP dIdx (aCons (eFld "Form" "rows" (eVar 0)) (aCons (eP dIdx (aCons (eVar 2) (aCons (eC (.int 0)) aNil))) aNil))) (aCons (eP dIdx (aCons (eVar 2) (aCons (eC (.int 1)) aNil))) aNil)))) aNil)) aNil)))))) m_Form_least_from_c1 sNil)
def m_Form_least_from_b2 : Sv := (sSeq (sSet 5 (eP dAbs (aCons (eChk D.isFlat (eP dIdx (aCons (eP dIdx (aCons (eFld "Form" "rows" (eVar 0)) (aCons (eVar 3) aNil))) (aCons (eVar 4) aNil)))) aNil))) m_Form_least_from_b2_1)
def m_Form_least_from_b1 : Sv := (sFor (iRng (aCons (eVar 1) (aCons (eChk D.isFlat (eFld "Form" "wide" (eVar 0))) aNil))) (gN 4) m_Form_least_from_b2)
def m_Form_least_from_1 : Sv := (sSeq (sFor (iRng (aCons (eVar 1) (aCons (eChk D.isFlat (eFld "Form" "high" (eVar 0))) aNil))) (gN 3) m_Form_least_from_b1) (sRet (eVar 2)))
def m_Form_least_from : Sv := (sSeq (sSet 2 (eC .non)) m_Form_least_from_1)
def f_Form_least_from : List D → Option Res := fnSem 6 [.lab none [0] false, .flat] m_Form_least_from
def m_swap_rows : Svo := (oSeq (sOSwap 0 1 2) oNil)
def f_swap_rows : List D → Option D := semO 3 [.flat, .flat] m_swap_rows
def m_swap_columns : Svo := (oSeq (sOEach 0 (rowSwp 3 1 2)) oNil)
def f_swap_columns : List D → Option D := semO 4 [.flat, .flat] m_swap_columns
def m_Form_swap_down_2 : Svo := (oSeq (sOAttr 0 "Form" "left_back" f_swap_columns (aCons (eVar 1) (aCons (eVar 2) aNil))) oNil)
def m_Form_swap_down_1 : Svo := (oSeq (sOAttr 0 "Form" "left" f_swap_rows (aCons (eVar 1) (aCons (eVar 2) aNil))) m_Form_swap_down_2)
def m_Form_swap_down : Svo := (oSeq (sOAttr 0 "Form" "rows" f_swap_rows (aCons (eVar 1) (aCons (eVar 2) aNil))) m_Form_swap_down_1)
def f_Form_swap_down : List D → Option D := semO 3 [.flat, .flat] m_Form_swap_down
def m_Form_swap_over_2 : Svo := (oSeq (sOAttr 0 "Form" "right_back" f_swap_rows (aCons (eVar 1) (aCons (eVar 2) aNil))) oNil)
def m_Form_swap_over_1 : Svo := (oSeq (sOAttr 0 "Form" "right" f_swap_columns (aCons (eVar 1) (aCons (eVar 2) aNil))) m_Form_swap_over_2)
def m_Form_swap_over : Svo := (oSeq (sOAttr 0 "Form" "rows" f_swap_columns (aCons (eVar 1) (aCons (eVar 2) aNil))) m_Form_swap_over_1)
def f_Form_swap_over : List D → Option D := semO 3 [.flat, .flat] m_Form_swap_over
def m_Form_bring_c1 : Sv := (sOMeth 0 "Form" "swap_down" f_Form_swap_down (aCons (eVar 1) (aCons (eP dIdx (aCons (eVar 2) (aCons (eC (.int 0)) aNil))) aNil)))
def m_Form_bring_c2 : Sv := (sOMeth 0 "Form" "swap_over" f_Form_swap_over (aCons (eVar 1) (aCons (eP dIdx (aCons (eVar 2) (aCons (eC (.int 1)) aNil))) aNil)))
def m_Form_bring_1 : Svo := (oSeq (sIf (tOf (eP dNe (aCons (eP dIdx (aCons (eVar 2) (aCons (eC (.int 1)) aNil))) (aCons (eVar 1) aNil)))) m_Form_bring_c2 sNil) oNil)
def m_Form_bring : Svo := (oSeq (sIf (tOf (eP dNe (aCons (eP dIdx (aCons (eVar 2) (aCons (eC (.int 0)) aNil))) (aCons (eVar 1) aNil)))) m_Form_bring_c1 sNil) m_Form_bring_1)
def f_Form_bring : List D → Option D := semO 3 [.flat, .flat] m_Form_bring
def m_add_row_e1 : Ev := (eP dAdd (aCons (eVar 4) (aCons (eP dMul (aCons (eVar 3) (aCons (eVar 5) aNil))) aNil)))
def m_add_row : Svo := (oSeq (sPut lPut 0 (eVar 1) (eLc (iZipL (aCons (eP dIdx (aCons (eVar 0) (aCons (eVar 1) aNil))) (aCons (eP dIdx (aCons (eVar 0) (aCons (eVar 2) aNil))) aNil))) (gT (gsCons (gF (gN 4)) (gsCons (gF (gN 5)) gsNil))) cYes m_add_row_e1)) oNil)
def f_add_row : List D → Option D := semO 6 [.flat, .flat, .flat] m_add_row
def m_add_column : Svo := (oSeq (sOEach 0 (rowAdd 4 (eVar 1) (eP dMul (aCons (eVar 3) (aCons (eChk D.isFlat (eP dIdx (aCons (eVar 4) (aCons (eVar 2) aNil)))) aNil))))) oNil)
def f_add_column : List D → Option D := semO 5 [.flat, .flat, .flat] m_add_column
def m_Form_add_down_2 : Svo := (oSeq (sOAttr 0 "Form" "left_back" f_add_column (aCons (eVar 2) (aCons (eVar 1) (aCons (eP dNeg (aCons (eVar 3) aNil)) aNil)))) oNil)
def m_Form_add_down_1 : Svo := (oSeq (sOAttr 0 "Form" "left" f_add_row (aCons (eVar 1) (aCons (eVar 2) (aCons (eVar 3) aNil)))) m_Form_add_down_2)
def m_Form_add_down : Svo := (oSeq (sOAttr 0 "Form" "rows" f_add_row (aCons (eVar 1) (aCons (eVar 2) (aCons (eVar 3) aNil)))) m_Form_add_down_1)
def f_Form_add_down : List D → Option D := semO 4 [.flat, .flat, .flat] m_Form_add_down
def m_Form_clear_down_c1 : Sv := (sOMeth 0 "Form" "add_down" f_Form_add_down (aCons (eVar 2) (aCons (eVar 1) (aCons (eP dNeg (aCons (eVar 3) aNil)) aNil))))
def m_Form_clear_down_b1_1 : Sv := (sIf (tOf (eP dNe (aCons (eVar 3) (aCons (eC (.int 0)) aNil)))) m_Form_clear_down_c1 sNil)
def m_Form_clear_down_b1 : Sv := (sSeq (sSet 3 (eP dDivF (aCons (eChk D.isFlat (eP dIdx (aCons (eP dIdx (aCons (eFld "Form" "rows" (eVar 0)) (aCons (eVar 2) aNil))) (aCons (eVar 1) aNil)))) (aCons (eChk D.isFlat (eP dIdx (aCons (eP dIdx (aCons (eFld "Form" "rows" (eVar 0)) (aCons (eVar 1) aNil))) (aCons (eVar 1) aNil)))) aNil)))) m_Form_clear_down_b1_1)
def m_Form_clear_down : Svo := (oSeq (sFor (iRng (aCons (eP dAdd (aCons (eVar 1) (aCons (eC (.int 1)) aNil))) (aCons (eChk D.isFlat (eFld "Form" "high" (eVar 0))) aNil))) (gN 2) m_Form_clear_down_b1) oNil)
def f_Form_clear_down : List D → Option D := semO 4 [.flat] m_Form_clear_down
def m_Form_add_over_2 : Svo := (oSeq (sOAttr 0 "Form" "right_back" f_add_row (aCons (eVar 2) (aCons (eVar 1) (aCons (eP dNeg (aCons (eVar 3) aNil)) aNil)))) oNil)
def m_Form_add_over_1 : Svo := (oSeq (sOAttr 0 "Form" "right" f_add_column (aCons (eVar 1) (aCons (eVar 2) (aCons (eVar 3) aNil)))) m_Form_add_over_2)
def m_Form_add_over : Svo := (oSeq (sOAttr 0 "Form" "rows" f_add_column (aCons (eVar 1) (aCons (eVar 2) (aCons (eVar 3) aNil)))) m_Form_add_over_1)
def f_Form_add_over : List D → Option D := semO 4 [.flat, .flat, .flat] m_Form_add_over
def m_Form_clear_over_c1 : Sv := (sOMeth 0 "Form" "add_over" f_Form_add_over (aCons (eVar 2) (aCons (eVar 1) (aCons (eP dNeg (aCons (eVar 3) aNil)) aNil))))
def m_Form_clear_over_b1_1 : Sv := (sIf (tOf (eP dNe (aCons (eVar 3) (aCons (eC (.int 0)) aNil)))) m_Form_clear_over_c1 sNil)
def m_Form_clear_over_b1 : Sv := (sSeq (sSet 3 (eP dDivF (aCons (eChk D.isFlat (eP dIdx (aCons (eP dIdx (aCons (eFld "Form" "rows" (eVar 0)) (aCons (eVar 1) aNil))) (aCons (eVar 2) aNil)))) (aCons (eChk D.isFlat (eP dIdx (aCons (eP dIdx (aCons (eFld "Form" "rows" (eVar 0)) (aCons (eVar 1) aNil))) (aCons (eVar 1) aNil)))) aNil)))) m_Form_clear_over_b1_1)
def m_Form_clear_over : Svo := (oSeq (sFor (iRng (aCons (eP dAdd (aCons (eVar 1) (aCons (eC (.int 1)) aNil))) (aCons (eChk D.isFlat (eFld "Form" "wide" (eVar 0))) aNil))) (gN 2) m_Form_clear_over_b1) oNil)
def f_Form_clear_over : List D → Option D := semO 4 [.flat] m_Form_clear_over
def m_Form_odd_row_b2 : Sv := (sIf (tOf (eP dNe (aCons (eP dModF (aCons (eVar 3) (aCons (eChk D.isFlat (eP dIdx (aCons (eP dIdx (aCons (eFld "Form" "rows" (eVar 0)) (aCons (eVar 1) aNil))) (aCons (eVar 1) aNil)))) aNil))) (aCons (eC (.int 0)) aNil)))) (sRet (eVar 2)) sNil)
def m_Form_odd_row_b1 : Sv := (sFor (iLst (eChk D.kidsFlat (eSl (eChk D.isLst (eP dIdx (aCons (eFld "Form" "rows" (eVar 0)) (aCons (eVar 2) aNil)))) (oSome (eP dAdd (aCons (eVar 1) (aCons (eC (.int 1)) aNil)))) oNone))) (gF (gN 3)) m_Form_odd_row_b2)
def m_Form_odd_row : Sv := (sSeq (sFor (iRng (aCons (eP dAdd (aCons (eVar 1) (aCons (eC (.int 1)) aNil))) (aCons (eChk D.isFlat (eFld "Form" "high" (eVar 0))) aNil))) (gN 2) m_Form_odd_row_b1) (sRet (eC .non)))
def f_Form_odd_row : List D → Option Res := fnSem 4 [.lab none [0] false, .flat] m_Form_odd_row
def m_Form_is_clear_e1 : Ev := (eChk D.isFlat (eP dIdx (aCons (eP dIdx (aCons (eFld "Form" "rows" (eVar 0)) (aCons (eVar 3) aNil))) (aCons (eVar 1) aNil))))
def m_Form_is_clear_e2 : Ev := (eP dEq (aCons (eVar 4) (aCons (eC (.int 0)) aNil)))
def m_Form_is_clear_1 : Sv := (sRet (eP dAll (aCons (eLc (iLst (eP dCatF (aCons (eVar 2) (aCons (eChk D.kidsFlat (eSl (eChk D.isLst (eP dIdx (aCons (eFld "Form" "rows" (eVar 0)) (aCons (eVar 1) aNil)))) (oSome (eP dAdd (aCons (eVar 1) (aCons (eC (.int 1)) aNil)))) oNone)) aNil)))) (gF (gN 4)) cYes m_Form_is_clear_e2) aNil)))
def m_Form_is_clear : Sv := (sSeq (sSet 2 (eLc (iRng (aCons (eP dAdd (aCons (eVar 1) (aCons (eC (.int 1)) aNil))) (aCons (eChk D.isFlat (eFld "Form" "high" (eVar 0))) aNil))) (gN 3) cYes m_Form_is_clear_e1)) m_Form_is_clear_1)
def f_Form_is_clear : List D → Option Res := fnSem 5 [.lab none [0] false, .flat] m_Form_is_clear
def m_Form_settle_c1 : Svo := (oSeq (sOMeth 0 "Form" "bring" f_Form_bring (aCons (eVar 1) (aCons (eMeth "Form" "least_from" f_Form_least_from (eVar 0) (aCons (eVar 1) aNil)) aNil))) oCt)
def m_Form_settle_c3 : Svo := (oSeq (sOMeth 0 "Form" "add_down" f_Form_add_down (aCons (eVar 1) (aCons (eVar 2) (aCons (eC (.int 1)) aNil)))) oNil)
def m_Form_settle_c2_1 : Svo := (oIf (tOf (eP dIsN (aCons (eVar 2) (aCons (eC .non) aNil)))) oRet m_Form_settle_c3)
def m_Form_settle_c2 : Svo := (oSeq (sSet 2 (eMeth "Form" "odd_row" f_Form_odd_row (eVar 0) (aCons (eVar 1) aNil))) m_Form_settle_c2_1)
def m_Form_settle_b1_2 : Svo := (oIf (wNot (tOf (eMeth "Form" "is_clear" f_Form_is_clear (eVar 0) (aCons (eVar 1) aNil)))) m_Form_settle_c1 m_Form_settle_c2)
def m_Form_settle_b1_1 : Svo := (oSeq (sOMeth 0 "Form" "clear_over" f_Form_clear_over (aCons (eVar 1) aNil)) m_Form_settle_b1_2)
def m_Form_settle_b1 : Svo := (oSeq (sOMeth 0 "Form" "clear_down" f_Form_clear_down (aCons (eVar 1) aNil)) m_Form_settle_b1_1)
def m_Form_settle : Svo := (oWhile (tOf (eC (.bl true))) m_Form_settle_b1)
def f_Form_settle : List D → Option D := semO 3 [.flat] m_Form_settle
def m_Form_turn_down_2 : Svo := (oSeq (sOAttr 0 "Form" "left_back" f_add_column (aCons (eVar 1) (aCons (eVar 1) (aCons (eP dNeg (aCons (eC (.int 2)) aNil)) aNil)))) oNil)
def m_Form_turn_down_1 : Svo := (oSeq (sOAttr 0 "Form" "left" f_add_row (aCons (eVar 1) (aCons (eVar 1) (aCons (eP dNeg (aCons (eC (.int 2)) aNil)) aNil)))) m_Form_turn_down_2)
def m_Form_turn_down : Svo := (oSeq (sOAttr 0 "Form" "rows" f_add_row (aCons (eVar 1) (aCons (eVar 1) (aCons (eP dNeg (aCons (eC (.int 2)) aNil)) aNil)))) m_Form_turn_down_1)
def f_Form_turn_down : List D → Option D := semO 2 [.flat] m_Form_turn_down
def m_Form_run_c1_2 : Svo := (oSeq (sIf (tOf (eP dLt (aCons (eChk D.isFlat (eP dIdx (aCons (eP dIdx (aCons (eFld "Form" "rows" (eVar 0)) (aCons (eVar 1) aNil))) (aCons (eVar 1) aNil)))) (aCons (eC (.int 0)) aNil)))) (sOMeth 0 "Form" "turn_down" f_Form_turn_down (aCons (eVar 1) aNil)) sNil) oNil)
def m_Form_run_c1_1 : Svo := (oSeq (sOMeth 0 "Form" "settle" f_Form_settle (aCons (eVar 1) aNil)) m_Form_run_c1_2)
def m_Form_run_c1 : Svo := (oSeq (sOMeth 0 "Form" "bring" f_Form_bring (aCons (eVar 1) (aCons (eVar 2) aNil))) m_Form_run_c1_1)
def m_Form_run_b1_1 : Svo := (oIf (tOf (eP dIsN (aCons (eVar 2) (aCons (eC .non) aNil)))) oRet m_Form_run_c1)
def m_Form_run_b1 : Svo := (oSeq (sSet 2 (eMeth "Form" "least_from" f_Form_least_from (eVar 0) (aCons (eVar 1) aNil))) m_Form_run_b1_1)
def m_Form_run : Svo := (oFor (iRng (aCons (eP dMin2 (aCons (eChk D.isFlat (eFld "Form" "high" (eVar 0))) (aCons (eChk D.isFlat (eFld "Form" "wide" (eVar 0))) aNil))) aNil)) (gN 1) m_Form_run_b1)
def f_Form_run : List D → Option D := semO 3 [] m_Form_run
def m_plain_form_5 : Sv := (sRet (eTup (aCons (eVar 4) (aCons (eTup (aCons (eVar 2) (aCons (eVar 2) (aCons (eFld "Form" "left_back" (eVar 1)) aNil)))) (aCons (eTup (aCons (eVar 2) (aCons (eVar 3) (aCons (eFld "Form" "rows" (eVar 1)) aNil)))) (aCons (eVar 5) (aCons (eTup (aCons (eVar 3) (aCons (eVar 3) (aCons (eFld "Form" "right_back" (eVar 1)) aNil)))) aNil)))))))
def m_plain_form_4 : Sv := (sSeq (sSet 5 (eTup (aCons (eVar 3) (aCons (eVar 3) (aCons (eFld "Form" "right" (eVar 1)) aNil))))) m_plain_form_5)
def m_plain_form_3 : Sv := (sSeq (sSet 4 (eTup (aCons (eVar 2) (aCons (eVar 2) (aCons (eFld "Form" "left" (eVar 1)) aNil))))) m_plain_form_4)
def m_plain_form_2 : Sv := (sSeq (sAsg (gT (gsCons (gN 2) (gsCons (gN 3) gsNil))) (eChk D.isFlat (eSl (eChk D.isTup (eVar 0)) oNone (oSome (eC (.int 2)))))) m_plain_form_3)
def m_plain_form_1 : Sv := (sSeq (sOMeth 1 "Form" "run" f_Form_run aNil) m_plain_form_2)
def m_plain_form : Sv := (sSeq (sSetO 1 (eMake f_Form_init (aCons (eVar 0) aNil))) m_plain_form_1)
def f_plain_form : List D → Option Res := fnSem 6 [.lab none [0] false] m_plain_form
def m_divisors_e1 : Ev := (eChk D.isFlat (eP dIdx (aCons (eP dIdx (aCons (eP dIdx (aCons (eVar 1) (aCons (eC (.int 2)) aNil))) (aCons (eVar 3) aNil))) (aCons (eVar 3) aNil))))
def m_divisors_2 : Sv := (sRet (eLc (iLst (eVar 2)) (gF (gN 4)) (tOf (eP dNe (aCons (eVar 4) (aCons (eC (.int 0)) aNil)))) (eVar 4)))
def m_divisors_1 : Sv := (sSeq (sSet 2 (eLc (iRng (aCons (eP dMin2 (aCons (eChk D.isFlat (eP dIdx (aCons (eVar 0) (aCons (eC (.int 0)) aNil)))) (aCons (eChk D.isFlat (eP dIdx (aCons (eVar 0) (aCons (eC (.int 1)) aNil)))) aNil))) aNil)) (gN 3) cYes m_divisors_e1)) m_divisors_2)
def m_divisors : Sv := (sSeq (sSet 1 (eP dIdx (aCons (eCall f_plain_form (aCons (eVar 0) aNil)) (aCons (eC (.int 2)) aNil)))) m_divisors_1)
def f_divisors : List D → Option Res := fnSem 5 [.lab none [0] false] m_divisors
def m_gathered_e2 : Ev := (eP dMul (aCons (eChk D.isFlat (eP dIdx (aCons (eVar 0) (aCons (eVar 3) aNil)))) (aCons (eP dIntC (aCons (eP dEq (aCons (eVar 3) (aCons (eVar 5) aNil))) aNil)) aNil)))
def m_gathered_e1 : Ev := (eLc (iRng (aCons (eVar 1) aNil)) (gN 5) cYes m_gathered_e2)
def m_gathered_2 : Sv := (sRet (eLc (iLst (eChk D.kidsFlat (eCall f_divisors (aCons (eTup (aCons (eVar 1) (aCons (eVar 1) (aCons (eVar 2) aNil)))) aNil)))) (gF (gN 4)) (tOf (eP dGt (aCons (eVar 4) (aCons (eC (.int 1)) aNil)))) (eVar 4)))
def m_gathered_1 : Sv := (sSeq (sSet 2 (eLc (iRng (aCons (eVar 1) aNil)) (gN 3) cYes m_gathered_e1)) m_gathered_2)
def m_gathered : Sv := (sSeq (sSet 1 (eP dLen (aCons (eVar 0) aNil))) m_gathered_1)
def f_gathered : List D → Option Res := fnSem 6 [.lab none [0] false] m_gathered
def m__law_good_b1 : Sv := (sIf (wOr (wNot (tOf (eP (dIsi "int") (aCons (eVar 2) aNil)))) (tOf (eP (dIsi "bool") (aCons (eVar 2) aNil)))) (sRet (eC (.bl false))) sNil)
def m__law_good_1 : Sv := (sSeq (sFor (iLst (eVar 0)) (gF (gN 2)) m__law_good_b1) (sRet (eC (.bl true))))
def m__law_good : Sv := (sSeq (sIf (wOr (wNot (tOf (eP (dIsi "list") (aCons (eVar 0) aNil)))) (tOf (eP dNe (aCons (eVar 0) (aCons (eVar 1) aNil))))) (sRet (eC (.bl false))) sNil) m__law_good_1)
def f__law_good : List D → Option Res := fnSem 3 [.lab none [0] false, .lab none [0] false] m__law_good
def m_law_10 : Sv := (sRet (vAnd (eCall f__law_good (aCons (eChk D.kidsFlat (eCall f_gathered (aCons (eVar 5) aNil))) (aCons (eVar 4) aNil))) (vAnd (eCall f__law_good (aCons (eChk D.kidsFlat (eCall f_gathered (aCons (eVar 8) aNil))) (aCons (eVar 4) aNil))) (eCall f__law_good (aCons (eChk D.kidsFlat (eCall f_gathered (aCons (eVar 4) aNil))) (aCons (eVar 4) aNil))))))
def m_law_9 : Sv := (sSeq (sSet 8 (eP dCatF (aCons (eP dCatF (aCons (eSl (eChk D.isLst (eVar 3)) (oSome (eVar 7)) oNone) (aCons (eLst (aCons (eC (.int 1)) aNil)) aNil))) (aCons (eP dStepN (aCons (eSl (eChk D.isLst (eVar 3)) oNone (oSome (eVar 7))) (aCons (eP dNeg (aCons (eC (.int 1)) aNil)) aNil))) aNil)))) m_law_10)
def m_law_8 : Sv := (sSeq (sSet 7 (eP dMod (aCons (eChk D.isFlat (eP dIdx (aCons (eVar 1) (aCons (eC (.int 2)) aNil)))) (aCons (eP dAdd (aCons (eVar 2) (aCons (eC (.int 1)) aNil))) aNil)))) m_law_9)
def m_law_7 : Sv := (sSeq (sMut dPush 6 (eC (.int 5))) m_law_8)
def m_law_6 : Sv := (sSeq (sIf (wOr (wNot (tOf (eCall f__law_good (aCons (eVar 6) (aCons (eVar 4) aNil))))) (tOf (eP dNe (aCons (eVar 5) (aCons (eVar 3) aNil))))) (sRet (eC (.bl false))) sNil) m_law_7)
def m_law_5 : Sv := (sSeq (sSet 6 (eChk D.kidsFlat (eCall f_gathered (aCons (eVar 5) aNil)))) m_law_6)
def m_law_4 : Sv := (sSeq (sSet 5 (eP dList (aCons (eVar 3) aNil))) m_law_5)
def m_law_3 : Sv := (sSeq (sSet 4 (eChk D.kidsFlat (eCall f__law_gathered (aCons (eVar 3) aNil)))) m_law_4)
def m_law_2 : Sv := (sSeq (sSet 3 (eChk D.kidsFlat (eCall f__law_numbers (aCons (eCall f__law_cell_at (aCons (eVar 0) (aCons (eC (.int 1)) aNil))) (aCons (eVar 2) aNil))))) m_law_3)
def m_law_1 : Sv := (sSeq (sSet 2 (eP dMod (aCons (eChk D.isFlat (eP dIdx (aCons (eVar 1) (aCons (eC (.int 0)) aNil)))) (aCons (eChk D.isFlat (eP dIdx (aCons (eLst (aCons (eC (.int 9)) (aCons (eC (.int 13)) aNil))) (aCons (eP dIntC (aCons (eP dEq (aCons (eP dMod (aCons (eChk D.isFlat (eP dIdx (aCons (eVar 1) (aCons (eC (.int 1)) aNil)))) (aCons (eC (.int 8)) aNil))) (aCons (eC (.int 5)) aNil))) aNil)) aNil)))) aNil)))) m_law_2)
def m_law : Sv := (sSeq (sSet 1 (eChk D.kidsFlat (eCall f__law_row (aCons (eCall f__law_cell_at (aCons (eVar 0) (aCons (eC (.int 0)) aNil))) (aCons (eC (.int 3)) (aCons (eC (.int 4096)) aNil)))))) m_law_1)
def f_law : List D → Option Res := fnSem 9 [.flat] m_law
end K42

/-! ## K42w -/
namespace K42
open PySem PySem.Spec PyProof.Rows L2 VV VP

def top (i : Nat) : Stmt := PySem.Challenge.pw_loopcube_k42_divisors_gathered.main.body.getD i (.Pass ⟨0, 0, 0, 0⟩)
abbrev FnP (K : PySem.W.Frag) (x : Str) (st : Stmt) (f : Addr) (fd : FuncData) : Prop := FunD K x x (defArgs st) (defBody st) (defScope st) [] [] f fd
abbrev s__law_row : Stmt := top 14
abbrev N__law_row : List Str := ["_law_cell", "_law_many", "_law_base", "_law_rest", "_law_found", "_law_high", "_law_k", "_law_one", "_law_other"]
abbrev s__law_numbers : Stmt := top 17
abbrev N__law_numbers : List Str := ["_law_cell", "_law_many", "_law_found", "_law_k", "_law_digit", "_law_some"]
abbrev s__law_common : Stmt := top 15
abbrev N__law_common : List Str := ["_law_one", "_law_other"]
abbrev s__law_gathered : Stmt := top 16
abbrev N__law_gathered : List Str := ["_law_numbers_here", "_law_row_here", "_law_i", "_law_j", "_law_part", "_law_rest", "_law_number"]
abbrev s_unit : Stmt := top 1
abbrev N_unit : List Str := ["many", "row", "place"]
abbrev s_Form_init : Stmt := (clsB (top 7)).getD 0 (.Pass ⟨0, 0, 0, 0⟩)
abbrev N_Form_init : List Str := ["self", "one", "row"]
abbrev s_Form_least_from : Stmt := (clsB (top 7)).getD 6 (.Pass ⟨0, 0, 0, 0⟩)
abbrev N_Form_least_from : List Str := ["self", "k", "found", "i", "j", "here"]
abbrev s_swap_rows : Stmt := top 4
abbrev N_swap_rows : List Str := ["rows", "i", "j"]
abbrev s_swap_columns : Stmt := top 6
abbrev N_swap_columns : List Str := ["rows", "i", "j", "row"]
abbrev s_Form_swap_down : Stmt := (clsB (top 7)).getD 2 (.Pass ⟨0, 0, 0, 0⟩)
abbrev N_Form_swap_down : List Str := ["self", "i", "j"]
abbrev s_Form_swap_over : Stmt := (clsB (top 7)).getD 5 (.Pass ⟨0, 0, 0, 0⟩)
abbrev N_Form_swap_over : List Str := ["self", "i", "j"]
abbrev s_Form_bring : Stmt := (clsB (top 7)).getD 7 (.Pass ⟨0, 0, 0, 0⟩)
abbrev N_Form_bring : List Str := ["self", "k", "place"]
abbrev s_add_row : Stmt := top 3
abbrev N_add_row : List Str := ["rows", "i", "j", "times", "one", "other"]
abbrev s_add_column : Stmt := top 5
abbrev N_add_column : List Str := ["rows", "i", "j", "times", "row"]
abbrev s_Form_add_down : Stmt := (clsB (top 7)).getD 1 (.Pass ⟨0, 0, 0, 0⟩)
abbrev N_Form_add_down : List Str := ["self", "i", "j", "times"]
abbrev s_Form_clear_down : Stmt := (clsB (top 7)).getD 8 (.Pass ⟨0, 0, 0, 0⟩)
abbrev N_Form_clear_down : List Str := ["self", "k", "i", "times"]
abbrev s_Form_add_over : Stmt := (clsB (top 7)).getD 4 (.Pass ⟨0, 0, 0, 0⟩)
abbrev N_Form_add_over : List Str := ["self", "i", "j", "times"]
abbrev s_Form_clear_over : Stmt := (clsB (top 7)).getD 9 (.Pass ⟨0, 0, 0, 0⟩)
abbrev N_Form_clear_over : List Str := ["self", "k", "j", "times"]
abbrev s_Form_odd_row : Stmt := (clsB (top 7)).getD 11 (.Pass ⟨0, 0, 0, 0⟩)
abbrev N_Form_odd_row : List Str := ["self", "k", "i", "number"]
abbrev s_Form_is_clear : Stmt := (clsB (top 7)).getD 10 (.Pass ⟨0, 0, 0, 0⟩)
abbrev N_Form_is_clear : List Str := ["self", "k", "down", "i", "number"]
abbrev s_Form_settle : Stmt := (clsB (top 7)).getD 12 (.Pass ⟨0, 0, 0, 0⟩)
abbrev N_Form_settle : List Str := ["self", "k", "odd"]
abbrev s_Form_turn_down : Stmt := (clsB (top 7)).getD 3 (.Pass ⟨0, 0, 0, 0⟩)
abbrev N_Form_turn_down : List Str := ["self", "i"]
abbrev s_Form_run : Stmt := (clsB (top 7)).getD 13 (.Pass ⟨0, 0, 0, 0⟩)
abbrev N_Form_run : List Str := ["self", "k", "place"]
abbrev s_plain_form : Stmt := top 8
abbrev N_plain_form : List Str := ["one", "form", "high", "wide", "left", "right"]
abbrev s_divisors : Stmt := top 9
abbrev N_divisors : List Str := ["one", "plain", "way", "k", "number"]
abbrev s_gathered : Stmt := top 11
abbrev N_gathered : List Str := ["numbers", "many", "rows", "row", "number", "place"]
abbrev s__law_cell_at : Stmt := top 13
abbrev N__law_cell_at : List Str := ["_law_script", "_law_k"]
abbrev s__law_good : Stmt := top 18
abbrev N__law_good : List Str := ["_law_found", "_law_due", "_law_number"]
abbrev s_law : Stmt := top 19
abbrev N_law : List Str := ["_law_script", "_law_head", "_law_many", "_law_numbers_here", "_law_due", "_law_handed", "_law_found", "_law_at", "_law_others"]
section
variable {P : Program} {w : World} {K : PySem.W.Frag} {mg : Str → Option Value} {base : Heap}
theorem sc__law_row : FnScope N__law_row ["_law_cell", "_law_many", "_law_base"] (defScope s__law_row) := ⟨rfl, rfl, rfl, by decide +kernel, rfl, by decide +kernel, by decide +kernel⟩
theorem ok__law_row {f : Addr} {fd : FuncData} (F : FnP K "_law_row" s__law_row f fd) (b_range : mg "range" = none) : FnOk P w K mg base CX0 1 f fd ["_law_cell", "_law_many", "_law_base"] (sp0 ⟨mg, K⟩ f__law_row 3 .fresh) := by
  have sc := sc__law_row
  let N : List Str := N__law_row
  let st : Stmt := s__law_row
  refine fn_ok0 (Γ' := []) (sc := ⟨[], .fresh, [], []⟩) (k := 0) F sc [.flat, .flat, .flat] rfl (by decide) rfl fun cdv A outer s0 H E hr => ?_
  exact (ss_cons (sx_set (i := 3) 2 3 sc.nd rfl (by first | exact Or.inl rfl | exact Or.inr rfl) (ex_div (ex_var (k := .flat) 0 rfl (by decide) rfl (by first | exact Or.inl rfl | exact Or.inr (Or.inl rfl) | exact Or.inr (Or.inr rfl))) (ex_int)))
        (ss_cons (sx_set (i := 4) 4 5 sc.nd rfl (by first | exact Or.inl rfl | exact Or.inr rfl) (ex_lst (ea_nil)))
        (ss_cons (sx_set (i := 5) 6 7 sc.nd rfl (by first | exact Or.inl rfl | exact Or.inr rfl) (ex_var (k := .flat) 3 rfl (by decide) rfl (by first | exact Or.inl rfl | exact Or.inr (Or.inl rfl) | exact Or.inr (Or.inr rfl))))
        (ss_cons (sx_for 8 rfl PassesOwn.never (ei_range1 rfl b_range (ea_cons (ex_var (k := .flat) 1 rfl (by decide) rfl (by first | exact Or.inl rfl | exact Or.inr (Or.inl rfl) | exact Or.inr (Or.inr rfl))) (ea_nil))) (eg_name sc.nd (i := 6) rfl (by first | exact Or.inl rfl | exact Or.inr rfl))
        (ss_conv (Γ' := [.flat, .flat, .flat, .flat, .lab (some 4) [] true, .flat, .dead, .dead, .dead]) [] (ss_one (sx_set (i := 5) 9 10 sc.nd rfl (by first | exact Or.inl rfl | exact Or.inr rfl) (ex_div (ex_var (k := .flat) 5 rfl (by decide) rfl (by first | exact Or.inl rfl | exact Or.inr (Or.inl rfl) | exact Or.inr (Or.inr rfl))) (ex_var (k := .flat) 2 rfl (by decide) rfl (by first | exact Or.inl rfl | exact Or.inr (Or.inl rfl) | exact Or.inr (Or.inr rfl)))))) (by decide) (by decide)))
        (ss_cons (sx_for 11 rfl PassesOwn.never (ei_range1 rfl b_range (ea_cons (ex_var (k := .flat) 1 rfl (by decide) rfl (by first | exact Or.inl rfl | exact Or.inr (Or.inl rfl) | exact Or.inr (Or.inr rfl))) (ea_nil))) (eg_name sc.nd (i := 6) rfl (by first | exact Or.inl rfl | exact Or.inr rfl))
        (ss_conv (Γ' := [.flat, .flat, .flat, .flat, .lab (some 4) [] true, .flat, .dead, .dead, .dead]) [] (ss_one (sx_if (et_gt (ex_var (k := .flat) 5 rfl (by decide) rfl (by first | exact Or.inl rfl | exact Or.inr (Or.inl rfl) | exact Or.inr (Or.inr rfl))) (ex_int))
        (ss_cons (sx_append (i := 4) (n := 4) (L := []) (nd := true) 12 rfl rfl (by first | exact Or.inl rfl | exact Or.inr (Or.inl rfl) | exact Or.inr (Or.inr rfl)) (ex_mod (ex_var (k := .flat) 3 rfl (by decide) rfl (by first | exact Or.inl rfl | exact Or.inr (Or.inl rfl) | exact Or.inr (Or.inr rfl))) (ex_var (k := .flat) 2 rfl (by decide) rfl (by first | exact Or.inl rfl | exact Or.inr (Or.inl rfl) | exact Or.inr (Or.inr rfl)))))
        (ss_one (sx_set (i := 3) 13 14 sc.nd rfl (by first | exact Or.inl rfl | exact Or.inr rfl) (ex_div (ex_var (k := .flat) 3 rfl (by decide) rfl (by first | exact Or.inl rfl | exact Or.inr (Or.inl rfl) | exact Or.inr (Or.inr rfl))) (ex_var (k := .flat) 2 rfl (by decide) rfl (by first | exact Or.inl rfl | exact Or.inr (Or.inl rfl) | exact Or.inr (Or.inr rfl)))))))
        (ss_conv (Γ' := [.flat, .flat, .flat, .flat, .lab (some 4) [] true, .flat, .flat, .dead, .dead]) [] (ss_cons (sx_set (i := 7) 15 16 sc.nd rfl (by first | exact Or.inl rfl | exact Or.inr rfl) (ex_mod (ex_mul (ex_add (ex_add (ex_add (ex_mod (ex_var (k := .flat) 3 rfl (by decide) rfl (by first | exact Or.inl rfl | exact Or.inr (Or.inl rfl) | exact Or.inr (Or.inr rfl))) (ex_int)) (ex_mul (ex_int) (ex_var (k := .flat) 6 rfl (by decide) rfl (by first | exact Or.inl rfl | exact Or.inr (Or.inl rfl) | exact Or.inr (Or.inr rfl))))) (ex_mul (ex_var (k := .flat) 6 rfl (by decide) rfl (by first | exact Or.inl rfl | exact Or.inr (Or.inl rfl) | exact Or.inr (Or.inr rfl))) (ex_var (k := .flat) 6 rfl (by decide) rfl (by first | exact Or.inl rfl | exact Or.inr (Or.inl rfl) | exact Or.inr (Or.inr rfl))))) (ex_int)) (ex_int)) (ex_int)))
        (ss_cons (sx_set (i := 8) 17 18 sc.nd rfl (by first | exact Or.inl rfl | exact Or.inr rfl) (ex_mod (ex_mul (ex_add (ex_var (k := .flat) 7 rfl (by decide) rfl (by first | exact Or.inl rfl | exact Or.inr (Or.inl rfl) | exact Or.inr (Or.inr rfl))) (ex_mul (ex_int) (ex_var (k := .flat) 6 rfl (by decide) rfl (by first | exact Or.inl rfl | exact Or.inr (Or.inl rfl) | exact Or.inr (Or.inr rfl))))) (ex_int)) (ex_int)))
        (ss_one (sx_append (i := 4) (n := 4) (L := []) (nd := true) 19 rfl rfl (by first | exact Or.inl rfl | exact Or.inr (Or.inl rfl) | exact Or.inr (Or.inr rfl)) (ex_mod (ex_add (ex_mul (ex_var (k := .flat) 7 rfl (by decide) rfl (by first | exact Or.inl rfl | exact Or.inr (Or.inl rfl) | exact Or.inr (Or.inr rfl))) (ex_var (k := .flat) 8 rfl (by decide) rfl (by first | exact Or.inl rfl | exact Or.inr (Or.inl rfl) | exact Or.inr (Or.inr rfl)))) (ex_div (ex_var (k := .flat) 7 rfl (by decide) rfl (by first | exact Or.inl rfl | exact Or.inr (Or.inl rfl) | exact Or.inr (Or.inr rfl))) (ex_int))) (ex_var (k := .flat) 2 rfl (by decide) rfl (by first | exact Or.inl rfl | exact Or.inr (Or.inl rfl) | exact Or.inr (Or.inr rfl)))))))) (by decide) (by decide)))) (by decide) (by decide)))
        (ss_one (sx_ret (ex_var (k := .lab (some 4) [] true) 4 rfl (by decide) rfl (by first | exact Or.inl rfl | exact Or.inr (Or.inl rfl) | exact Or.inr (Or.inr rfl))))))))))
theorem cal__law_row {f : Addr} {fd : FuncData} (F : FnP K "_law_row" s__law_row f fd) (h : mg "_law_row" = some (.ref f)) (b_range : mg "range" = none) : Cal P w K mg base "_law_row" 1 ["_law_cell", "_law_many", "_law_base"] f__law_row .fresh :=
  ⟨f, fd, ok__law_row F b_range, h, F.kp, FunD.bindsN F fun _ _ _ _ _ _ us hl => match us, hl with | [_, _, _], _ => rfl⟩
theorem sc__law_numbers : FnScope N__law_numbers ["_law_cell", "_law_many"] (defScope s__law_numbers) := ⟨rfl, rfl, rfl, by decide +kernel, rfl, by decide +kernel, by decide +kernel⟩
theorem ok__law_numbers {f : Addr} {fd : FuncData} (F : FnP K "_law_numbers" s__law_numbers f fd) (b_enumerate : mg "enumerate" = none) (c__law_row : Cal P w K mg base "_law_row" 1 ["_law_cell", "_law_many", "_law_base"] f__law_row .fresh) : FnOk P w K mg base CX0 2 f fd ["_law_cell", "_law_many"] (sp0 ⟨mg, K⟩ f__law_numbers 2 .fresh) := by
  have sc := sc__law_numbers
  let N : List Str := N__law_numbers
  let st : Stmt := s__law_numbers
  refine fn_ok0 (Γ' := []) (sc := ⟨[], .fresh, [], []⟩) (k := 1) F sc [.flat, .flat] rfl (by decide) rfl fun cdv A outer s0 H E hr => ?_
  exact (ss_cons (sx_set (i := 2) 2 3 sc.nd rfl (by first | exact Or.inl rfl | exact Or.inr rfl) (ex_lst (ea_nil)))
        (ss_cons (sx_for 4 rfl PassesOwn.never (ei_enum rfl b_enumerate (ex_kids (ex_calls_fresh c__law_row (hr.mono (by decide)) rfl (ea_cons (ex_var (k := .flat) 0 rfl (by decide) rfl (by first | exact Or.inl rfl | exact Or.inr (Or.inl rfl) | exact Or.inr (Or.inr rfl))) (ea_cons (ex_var (k := .flat) 1 rfl (by decide) rfl (by first | exact Or.inl rfl | exact Or.inr (Or.inl rfl) | exact Or.inr (Or.inr rfl))) (ea_cons (ex_powc (c := 1000000000000) (ex_pow (ex_int) (ex_int)) (by unfold CPow; decide) (by decide)) (ea_nil))))))) (eg_tup rfl (egs_cons (eg_flat (eg_name sc.nd (i := 3) rfl (by first | exact Or.inl rfl | exact Or.inr rfl))) (egs_cons (eg_flat (eg_name sc.nd (i := 4) rfl (by first | exact Or.inl rfl | exact Or.inr rfl))) (egs_nil))))
        (ss_conv (Γ' := [.flat, .flat, .lab (some 2) [] true, .dead, .dead, .dead]) [] (ss_cons (sx_set (i := 5) 5 6 sc.nd rfl (by first | exact Or.inl rfl | exact Or.inr rfl) (ex_lst (ea_cons (ex_int) (ea_cons (ex_add (ex_int) (ex_mod (ex_div (ex_var (k := .flat) 4 rfl (by decide) rfl (by first | exact Or.inl rfl | exact Or.inr (Or.inl rfl) | exact Or.inr (Or.inr rfl))) (ex_int)) (ex_int))) (ea_cons (ex_int) (ea_cons (ex_add (ex_int) (ex_mod (ex_div (ex_var (k := .flat) 4 rfl (by decide) rfl (by first | exact Or.inl rfl | exact Or.inr (Or.inl rfl) | exact Or.inr (Or.inr rfl))) (ex_int)) (ex_int))) (ea_cons (ex_add (ex_int) (ex_div (ex_var (k := .flat) 4 rfl (by decide) rfl (by first | exact Or.inl rfl | exact Or.inr (Or.inl rfl) | exact Or.inr (Or.inr rfl))) (ex_int))) (ea_cons (ex_add (ex_int) (ex_mod (ex_div (ex_var (k := .flat) 4 rfl (by decide) rfl (by first | exact Or.inl rfl | exact Or.inr (Or.inl rfl) | exact Or.inr (Or.inr rfl))) (ex_int)) (ex_int))) (ea_cons (ex_int) (ea_cons (ex_mulc (c := 900) (ex_mul (ex_mulc (c := 36) (ex_mul (ex_int) (ex_int)) (by decide) (by decide)) (ex_int)) (by decide) (by decide)) (ea_nil)))))))))))
        (ss_one (sx_append (i := 2) (n := 2) (L := []) (nd := true) 7 rfl rfl (by first | exact Or.inl rfl | exact Or.inr (Or.inl rfl) | exact Or.inr (Or.inr rfl)) (ex_flat (ex_idx (ex_var (k := .lab (some 5) [] true) 5 rfl (by decide) rfl (by first | exact Or.inl rfl | exact Or.inr (Or.inl rfl) | exact Or.inr (Or.inr rfl))) (ex_mod (ex_var (k := .flat) 4 rfl (by decide) rfl (by first | exact Or.inl rfl | exact Or.inr (Or.inl rfl) | exact Or.inr (Or.inr rfl))) (ex_int))))))) (by decide) (by decide)))
        (ss_one (sx_ret (ex_var (k := .lab (some 2) [] true) 2 rfl (by decide) rfl (by first | exact Or.inl rfl | exact Or.inr (Or.inl rfl) | exact Or.inr (Or.inr rfl)))))))
theorem cal__law_numbers {f : Addr} {fd : FuncData} (F : FnP K "_law_numbers" s__law_numbers f fd) (h : mg "_law_numbers" = some (.ref f)) (b_enumerate : mg "enumerate" = none) (c__law_row : Cal P w K mg base "_law_row" 1 ["_law_cell", "_law_many", "_law_base"] f__law_row .fresh) : Cal P w K mg base "_law_numbers" 2 ["_law_cell", "_law_many"] f__law_numbers .fresh :=
  ⟨f, fd, ok__law_numbers F b_enumerate c__law_row, h, F.kp, FunD.bindsN F fun _ _ _ _ _ _ us hl => match us, hl with | [_, _], _ => rfl⟩
theorem sc__law_common : FnScope N__law_common ["_law_one", "_law_other"] (defScope s__law_common) := ⟨rfl, rfl, rfl, by decide +kernel, rfl, by decide +kernel, by decide +kernel⟩
theorem ok__law_common {f : Addr} {fd : FuncData} (F : FnP K "_law_common" s__law_common f fd) : FnOk P w K mg base CX0 1 f fd ["_law_one", "_law_other"] (sp0 ⟨mg, K⟩ f__law_common 2 .flat) := by
  have sc := sc__law_common
  let N : List Str := N__law_common
  let st : Stmt := s__law_common
  refine fn_ok0 (Γ' := []) (sc := ⟨[], .flat, [], []⟩) (k := 0) F sc [.flat, .flat] rfl (by decide) rfl fun cdv A outer s0 H E hr => ?_
  exact (ss_cons (sx_while PassesOwn.never (et_gt (ex_var (k := .flat) 1 rfl (by decide) rfl (by first | exact Or.inl rfl | exact Or.inr (Or.inl rfl) | exact Or.inr (Or.inr rfl))) (ex_int))
        (ss_one (sx_par (i := 0) (j := 1) rfl sc.nd rfl rfl rfl rfl (ea_cons (ex_var (k := .flat) 1 rfl (by decide) rfl (by first | exact Or.inl rfl | exact Or.inr (Or.inl rfl) | exact Or.inr (Or.inr rfl))) (ea_cons (ex_mod (ex_var (k := .flat) 0 rfl (by decide) rfl (by first | exact Or.inl rfl | exact Or.inr (Or.inl rfl) | exact Or.inr (Or.inr rfl))) (ex_var (k := .flat) 1 rfl (by decide) rfl (by first | exact Or.inl rfl | exact Or.inr (Or.inl rfl) | exact Or.inr (Or.inr rfl)))) (ea_nil))))))
        (ss_one (sx_ret (ex_var (k := .flat) 0 rfl (by decide) rfl (by first | exact Or.inl rfl | exact Or.inr (Or.inl rfl) | exact Or.inr (Or.inr rfl))))))
theorem cal__law_common {f : Addr} {fd : FuncData} (F : FnP K "_law_common" s__law_common f fd) (h : mg "_law_common" = some (.ref f)) : Cal P w K mg base "_law_common" 1 ["_law_one", "_law_other"] f__law_common .flat :=
  ⟨f, fd, ok__law_common F, h, F.kp, FunD.bindsN F fun _ _ _ _ _ _ us hl => match us, hl with | [_, _], _ => rfl⟩
theorem sc__law_gathered : FnScope N__law_gathered ["_law_numbers_here"] (defScope s__law_gathered) := ⟨rfl, rfl, rfl, by decide +kernel, rfl, by decide +kernel, by decide +kernel⟩
theorem ok__law_gathered {f : Addr} {fd : FuncData} (F : FnP K "_law_gathered" s__law_gathered f fd) (b_len : mg "len" = none) (b_list : mg "list" = none) (b_range : mg "range" = none) (c__law_common : Cal P w K mg base "_law_common" 1 ["_law_one", "_law_other"] f__law_common .flat) : FnOk P w K mg base CX0 2 f fd ["_law_numbers_here"] (sp0 ⟨mg, K⟩ f__law_gathered 1 .fresh) := by
  have sc := sc__law_gathered
  let N : List Str := N__law_gathered
  let st : Stmt := s__law_gathered
  refine fn_ok0 (Γ' := []) (sc := ⟨[], .fresh, [], []⟩) (k := 1) F sc [.lab none [0] false] rfl (by decide) rfl fun cdv A outer s0 H E hr => ?_
  exact (ss_cons (sx_set (i := 1) 2 3 sc.nd rfl (by first | exact Or.inl rfl | exact Or.inr rfl) (ex_kids (ex_list rfl b_list (by decide +kernel) (ex_var (k := .lab none [0] false) 0 rfl (by decide) rfl (by first | exact Or.inl rfl | exact Or.inr (Or.inl rfl) | exact Or.inr (Or.inr rfl))))))
        (ss_cons (sx_for 4 rfl PassesOwn.never (ei_range1 rfl b_range (ea_cons (ex_callB call_len cp_len rfl b_len boot_len (ea_cons (ex_var (k := .lab (some 2) [] true) 1 rfl (by decide) rfl (by first | exact Or.inl rfl | exact Or.inr (Or.inl rfl) | exact Or.inr (Or.inr rfl))) (ea_nil))) (ea_nil))) (eg_name sc.nd (i := 2) rfl (by first | exact Or.inl rfl | exact Or.inr rfl))
        (ss_conv (Γ' := [.lab none [0] false, .lab (some 2) [] true, .dead, .dead, .dead, .dead, .dead]) [] (ss_one (sx_for 5 rfl PassesOwn.never (ei_range2 rfl b_range (ea_cons (ex_add (ex_var (k := .flat) 2 rfl (by decide) rfl (by first | exact Or.inl rfl | exact Or.inr (Or.inl rfl) | exact Or.inr (Or.inr rfl))) (ex_int)) (ea_cons (ex_callB call_len cp_len rfl b_len boot_len (ea_cons (ex_var (k := .lab (some 2) [] true) 1 rfl (by decide) rfl (by first | exact Or.inl rfl | exact Or.inr (Or.inl rfl) | exact Or.inr (Or.inr rfl))) (ea_nil))) (ea_nil)))) (eg_name sc.nd (i := 3) rfl (by first | exact Or.inl rfl | exact Or.inr rfl))
        (ss_conv (Γ' := [.lab none [0] false, .lab (some 2) [] true, .flat, .dead, .dead, .dead, .dead]) [] (ss_cons (sx_set (i := 4) 6 7 sc.nd rfl (by first | exact Or.inl rfl | exact Or.inr rfl) (ex_calls_flat c__law_common (hr.mono (by decide)) rfl (ea_cons (ex_flat (ex_idx (ex_var (k := .lab (some 2) [] true) 1 rfl (by decide) rfl (by first | exact Or.inl rfl | exact Or.inr (Or.inl rfl) | exact Or.inr (Or.inr rfl))) (ex_var (k := .flat) 2 rfl (by decide) rfl (by first | exact Or.inl rfl | exact Or.inr (Or.inl rfl) | exact Or.inr (Or.inr rfl))))) (ea_cons (ex_flat (ex_idx (ex_var (k := .lab (some 2) [] true) 1 rfl (by decide) rfl (by first | exact Or.inl rfl | exact Or.inr (Or.inl rfl) | exact Or.inr (Or.inr rfl))) (ex_var (k := .flat) 3 rfl (by decide) rfl (by first | exact Or.inl rfl | exact Or.inr (Or.inl rfl) | exact Or.inr (Or.inr rfl))))) (ea_nil)))))
        (ss_cons (sx_set (i := 5) 8 9 sc.nd rfl (by first | exact Or.inl rfl | exact Or.inr rfl) (ex_div (ex_flat (ex_idx (ex_var (k := .lab (some 2) [] true) 1 rfl (by decide) rfl (by first | exact Or.inl rfl | exact Or.inr (Or.inl rfl) | exact Or.inr (Or.inr rfl))) (ex_var (k := .flat) 2 rfl (by decide) rfl (by first | exact Or.inl rfl | exact Or.inr (Or.inl rfl) | exact Or.inr (Or.inr rfl))))) (ex_var (k := .flat) 4 rfl (by decide) rfl (by first | exact Or.inl rfl | exact Or.inr (Or.inl rfl) | exact Or.inr (Or.inr rfl)))))
        (ss_cons (sx_lput (i := 1) (n := 2) (L := []) (nd := true) 10 rfl rfl (by first | exact Or.inl rfl | exact Or.inr (Or.inl rfl) | exact Or.inr (Or.inr rfl)) (ex_mul (ex_var (k := .flat) 5 rfl (by decide) rfl (by first | exact Or.inl rfl | exact Or.inr (Or.inl rfl) | exact Or.inr (Or.inr rfl))) (ex_flat (ex_idx (ex_var (k := .lab (some 2) [] true) 1 rfl (by decide) rfl (by first | exact Or.inl rfl | exact Or.inr (Or.inl rfl) | exact Or.inr (Or.inr rfl))) (ex_var (k := .flat) 3 rfl (by decide) rfl (by first | exact Or.inl rfl | exact Or.inr (Or.inl rfl) | exact Or.inr (Or.inr rfl)))))) (ex_var (k := .flat) 3 rfl (by decide) rfl (by first | exact Or.inl rfl | exact Or.inr (Or.inl rfl) | exact Or.inr (Or.inr rfl))))
        (ss_one (sx_lput (i := 1) (n := 2) (L := []) (nd := true) 11 rfl rfl (by first | exact Or.inl rfl | exact Or.inr (Or.inl rfl) | exact Or.inr (Or.inr rfl)) (ex_var (k := .flat) 4 rfl (by decide) rfl (by first | exact Or.inl rfl | exact Or.inr (Or.inl rfl) | exact Or.inr (Or.inr rfl))) (ex_var (k := .flat) 2 rfl (by decide) rfl (by first | exact Or.inl rfl | exact Or.inr (Or.inl rfl) | exact Or.inr (Or.inr rfl)))))))) (by decide) (by decide)))) (by decide) (by decide)))
        (ss_one (sx_ret (ex_lc (own := [("_law_number", 6)]) 12 rfl sc.nd (ei_list (ex_var (k := .lab (some 2) [] true) 1 rfl (by decide) rfl (by first | exact Or.inl rfl | exact Or.inr (Or.inl rfl) | exact Or.inr (Or.inr rfl)))) (blkOk_by (by kernel_rfl)) (fun _ _ _ _ _ => eg_flat (eg_name sc.nd (i := 6) rfl (by first | exact Or.inl rfl | exact Or.inr rfl))) (fun _ _ _ _ _ => ets_one (et_gt (ex_var (k := .flat) 6 rfl (by decide) rfl (by first | exact Or.inl rfl | exact Or.inr (Or.inl rfl) | exact Or.inr (Or.inr rfl))) (ex_int))) (fun _ _ _ _ _ => ex_var (k := .flat) 6 rfl (by decide) rfl (by first | exact Or.inl rfl | exact Or.inr (Or.inl rfl) | exact Or.inr (Or.inr rfl))))))))
theorem cal__law_gathered {f : Addr} {fd : FuncData} (F : FnP K "_law_gathered" s__law_gathered f fd) (h : mg "_law_gathered" = some (.ref f)) (b_len : mg "len" = none) (b_list : mg "list" = none) (b_range : mg "range" = none) (c__law_common : Cal P w K mg base "_law_common" 1 ["_law_one", "_law_other"] f__law_common .flat) : Cal P w K mg base "_law_gathered" 2 ["_law_numbers_here"] f__law_gathered .fresh :=
  ⟨f, fd, ok__law_gathered F b_len b_list b_range c__law_common, h, F.kp, FunD.bindsN F fun _ _ _ _ _ _ us hl => match us, hl with | [_], _ => rfl⟩
theorem sc_unit : FnScope N_unit ["many"] (defScope s_unit) := ⟨rfl, rfl, rfl, by decide +kernel, rfl, by decide +kernel, by decide +kernel⟩
theorem ok_unit {f : Addr} {fd : FuncData} (F : FnP K "unit" s_unit f fd) (b_int : mg "int" = none) (b_range : mg "range" = none) : FnOk P w K mg base CX0 1 f fd ["many"] (sp0 ⟨mg, K⟩ f_unit 1 .fresh) := by
  have sc := sc_unit
  let N : List Str := N_unit
  let st : Stmt := s_unit
  refine fn_ok0 (Γ' := []) (sc := ⟨[], .fresh, [], []⟩) (k := 0) F sc [.flat] rfl (by decide) rfl fun cdv A outer s0 H E hr => ?_
  exact (ss_one (sx_ret (ex_tup (ea_cons (ex_var (k := .flat) 0 rfl (by decide) rfl (by first | exact Or.inl rfl | exact Or.inr (Or.inl rfl) | exact Or.inr (Or.inr rfl))) (ea_cons (ex_var (k := .flat) 0 rfl (by decide) rfl (by first | exact Or.inl rfl | exact Or.inr (Or.inl rfl) | exact Or.inr (Or.inr rfl))) (ea_cons (ex_lc (own := [("row", 1)]) 2 rfl sc.nd (ei_range1 rfl b_range (ea_cons (ex_var (k := .flat) 0 rfl (by decide) rfl (by first | exact Or.inl rfl | exact Or.inr (Or.inl rfl) | exact Or.inr (Or.inr rfl))) (ea_nil))) (blkOk_by (by kernel_rfl)) (fun _ _ _ _ _ => eg_name sc.nd (i := 1) rfl (by first | exact Or.inl rfl | exact Or.inr rfl)) (fun _ _ _ _ _ => ets_nil) (fun _ _ _ _ _ => ex_lc (own := [("place", 2)]) 3 rfl sc.nd (ei_range1 rfl b_range (ea_cons (ex_var (k := .flat) 0 rfl (by decide) rfl (by first | exact Or.inl rfl | exact Or.inr (Or.inl rfl) | exact Or.inr (Or.inr rfl))) (ea_nil))) (blkOk_by (by kernel_rfl)) (fun _ _ _ _ _ => eg_name sc.nd (i := 2) rfl (by first | exact Or.inl rfl | exact Or.inr rfl)) (fun _ _ _ _ _ => ets_nil) (fun _ _ _ _ _ => ex_callTy call_int1 cp_int1 rfl b_int (by decide +kernel) (ea_cons (ex_eq hr.units (ex_var (k := .flat) 1 rfl (by decide) rfl (by first | exact Or.inl rfl | exact Or.inr (Or.inl rfl) | exact Or.inr (Or.inr rfl))) (ex_var (k := .flat) 2 rfl (by decide) rfl (by first | exact Or.inl rfl | exact Or.inr (Or.inl rfl) | exact Or.inr (Or.inr rfl)))) (ea_nil))))) (ea_nil)))))))
theorem cal_unit {f : Addr} {fd : FuncData} (F : FnP K "unit" s_unit f fd) (h : mg "unit" = some (.ref f)) (b_int : mg "int" = none) (b_range : mg "range" = none) : Cal P w K mg base "unit" 1 ["many"] f_unit .fresh :=
  ⟨f, fd, ok_unit F b_int b_range, h, F.kp, FunD.bindsN F fun _ _ _ _ _ _ us hl => match us, hl with | [_], _ => rfl⟩
theorem sc_Form_init : FnScope N_Form_init ["self", "one"] (defScope s_Form_init) := ⟨rfl, rfl, rfl, by decide +kernel, rfl, by decide +kernel, by decide +kernel⟩
theorem ok_Form_init {f : Addr} {fd : FuncData} (F : FunD K "__init__" "Form.__init__" (defArgs s_Form_init) (defBody s_Form_init) (defScope s_Form_init) [] [] f fd) (cf_Form : ClsF K mg "Form") (nf_Form_high : NoF K mg "Form" "high") (nf_Form_left : NoF K mg "Form" "left") (nf_Form_left_back : NoF K mg "Form" "left_back") (nf_Form_right : NoF K mg "Form" "right") (nf_Form_right_back : NoF K mg "Form" "right_back") (nf_Form_rows : NoF K mg "Form" "rows") (nf_Form_wide : NoF K mg "Form" "wide") (b_list : mg "list" = none) (c_unit : Cal P w K mg base "unit" 1 ["many"] f_unit .fresh) : FnOk P w K mg base CX0 2 f fd ["self", "one"] (spI ⟨mg, K⟩ "Form" f_Form_init 1) := by
  have sc := sc_Form_init
  let N : List Str := N_Form_init
  let st : Stmt := s_Form_init
  refine fn_okI (Γ' := [.ob 1 [[2], [3], [5], [6], [7], [8], [9]], .lab none [0] false, .dead]) (sc := ⟨[], .flat, [], []⟩) (k := 1) F sc [.lab none [0] false] rfl (by decide) rfl (by decide) rfl rfl fun cdv A outer s0 H E hr => ?_
  exact (ss_cons (sx_fldG (i := 0) (n := 1) (Ls := []) 2 cf_Form nf_Form_high rfl rfl (by first | exact Or.inl rfl | exact Or.inr (Or.inl rfl) | exact Or.inr (Or.inr rfl)) (ex_flat (ex_idx (ex_var (k := .lab none [0] false) 1 rfl (by decide) rfl (by first | exact Or.inl rfl | exact Or.inr (Or.inl rfl) | exact Or.inr (Or.inr rfl))) (ex_int))))
        (ss_cons (sx_fldG (i := 0) (n := 1) (Ls := [[2]]) 3 cf_Form nf_Form_wide rfl rfl (by first | exact Or.inl rfl | exact Or.inr (Or.inl rfl) | exact Or.inr (Or.inr rfl)) (ex_flat (ex_idx (ex_var (k := .lab none [0] false) 1 rfl (by decide) rfl (by first | exact Or.inl rfl | exact Or.inr (Or.inl rfl) | exact Or.inr (Or.inr rfl))) (ex_int))))
        (ss_cons (sx_fld1 (i := 0) (fr := true) (n := 1) (Ls := [[2], [3]]) 5 cf_Form nf_Form_rows rfl rfl (by first | exact Or.inl rfl | exact Or.inr (Or.inl rfl) | exact Or.inr (Or.inr rfl)) (ex_lc (own := [("row", 2)]) 4 rfl sc.nd (ei_list (ex_idx (ex_var (k := .lab none [0] false) 1 rfl (by decide) rfl (by first | exact Or.inl rfl | exact Or.inr (Or.inl rfl) | exact Or.inr (Or.inr rfl))) (ex_int))) (blkOk_by (by kernel_rfl)) (fun _ _ _ _ _ => eg_name sc.nd (i := 2) rfl (by first | exact Or.inl rfl | exact Or.inr rfl)) (fun _ _ _ _ _ => ets_nil) (fun _ _ _ _ _ => ex_kids (ex_list rfl b_list (by decide +kernel) (ex_var (k := .lab none [0] false) 2 rfl (by decide) rfl (by first | exact Or.inl rfl | exact Or.inr (Or.inl rfl) | exact Or.inr (Or.inr rfl)))))))
        (ss_cons (sx_fldG (i := 0) (n := 1) (Ls := [[2], [3], [5]]) 6 cf_Form nf_Form_left rfl rfl (by first | exact Or.inl rfl | exact Or.inr (Or.inl rfl) | exact Or.inr (Or.inr rfl)) (ex_idx (ex_calls_fresh c_unit (hr.mono (by decide)) rfl (ea_cons (ex_flat (ex_idx (ex_var (k := .lab none [0] false) 1 rfl (by decide) rfl (by first | exact Or.inl rfl | exact Or.inr (Or.inl rfl) | exact Or.inr (Or.inr rfl))) (ex_int))) (ea_nil))) (ex_int)))
        (ss_cons (sx_fldG (i := 0) (n := 1) (Ls := [[2], [3], [5], [6]]) 7 cf_Form nf_Form_left_back rfl rfl (by first | exact Or.inl rfl | exact Or.inr (Or.inl rfl) | exact Or.inr (Or.inr rfl)) (ex_idx (ex_calls_fresh c_unit (hr.mono (by decide)) rfl (ea_cons (ex_flat (ex_idx (ex_var (k := .lab none [0] false) 1 rfl (by decide) rfl (by first | exact Or.inl rfl | exact Or.inr (Or.inl rfl) | exact Or.inr (Or.inr rfl))) (ex_int))) (ea_nil))) (ex_int)))
        (ss_cons (sx_fldG (i := 0) (n := 1) (Ls := [[2], [3], [5], [6], [7]]) 8 cf_Form nf_Form_right rfl rfl (by first | exact Or.inl rfl | exact Or.inr (Or.inl rfl) | exact Or.inr (Or.inr rfl)) (ex_idx (ex_calls_fresh c_unit (hr.mono (by decide)) rfl (ea_cons (ex_flat (ex_idx (ex_var (k := .lab none [0] false) 1 rfl (by decide) rfl (by first | exact Or.inl rfl | exact Or.inr (Or.inl rfl) | exact Or.inr (Or.inr rfl))) (ex_int))) (ea_nil))) (ex_int)))
        (ss_one (sx_fldG (i := 0) (n := 1) (Ls := [[2], [3], [5], [6], [7], [8]]) 9 cf_Form nf_Form_right_back rfl rfl (by first | exact Or.inl rfl | exact Or.inr (Or.inl rfl) | exact Or.inr (Or.inr rfl)) (ex_idx (ex_calls_fresh c_unit (hr.mono (by decide)) rfl (ea_cons (ex_flat (ex_idx (ex_var (k := .lab none [0] false) 1 rfl (by decide) rfl (by first | exact Or.inl rfl | exact Or.inr (Or.inl rfl) | exact Or.inr (Or.inr rfl))) (ex_int))) (ea_nil))) (ex_int))))))))))
theorem cal_Form_init {f C : Addr} {fd : FuncData} (F : FunD K "__init__" "Form.__init__" (defArgs s_Form_init) (defBody s_Form_init) (defScope s_Form_init) [] [] f fd) (hC : mg "Form" = some (.ref C)) (hm : Mk K C f) (cf_Form : ClsF K mg "Form") (nf_Form_high : NoF K mg "Form" "high") (nf_Form_left : NoF K mg "Form" "left") (nf_Form_left_back : NoF K mg "Form" "left_back") (nf_Form_right : NoF K mg "Form" "right") (nf_Form_right_back : NoF K mg "Form" "right_back") (nf_Form_rows : NoF K mg "Form" "rows") (nf_Form_wide : NoF K mg "Form" "wide") (b_list : mg "list" = none) (c_unit : Cal P w K mg base "unit" 1 ["many"] f_unit .fresh) : CalI P w K mg base "Form" 2 ["self", "one"] f_Form_init :=
  ⟨f, fd, C, ok_Form_init F cf_Form nf_Form_high nf_Form_left nf_Form_left_back nf_Form_right nf_Form_right_back nf_Form_rows nf_Form_wide b_list c_unit, hC, hm, FunD.bindsN F fun _ _ _ _ _ _ us hl => match us, hl with | [_, _], _ => rfl⟩
theorem sc_Form_least_from : FnScope N_Form_least_from ["self", "k"] (defScope s_Form_least_from) := ⟨rfl, rfl, rfl, by decide +kernel, rfl, by decide +kernel, by decide +kernel⟩
theorem ok_Form_least_from {f : Addr} {fd : FuncData} (F : FunD K "least_from" "Form.least_from" (defArgs s_Form_least_from) (defBody s_Form_least_from) (defScope s_Form_least_from) [] [] f fd) (cf_Form : ClsF K mg "Form") (nf_Form_high : NoF K mg "Form" "high") (nf_Form_rows : NoF K mg "Form" "rows") (nf_Form_wide : NoF K mg "Form" "wide") (b_abs : mg "abs" = none) (b_range : mg "range" = none) : FnOk P w K mg base CX0 1 f fd ["self", "k"] (sp0 ⟨mg, K⟩ f_Form_least_from 2 .flat) := by
  have sc := sc_Form_least_from
  let N : List Str := N_Form_least_from
  let st : Stmt := s_Form_least_from
  refine fn_ok0 (Γ' := []) (sc := ⟨[], .flat, [], []⟩) (k := 0) F sc [.lab none [0] false, .flat] rfl (by decide) rfl fun cdv A outer s0 H E hr => ?_
  exact (ss_cons (sx_set (i := 2) 2 3 sc.nd rfl (by first | exact Or.inl rfl | exact Or.inr rfl) (ex_non))
        (ss_cons (sx_for 4 rfl PassesOwn.never (ei_range2 rfl b_range (ea_cons (ex_var (k := .flat) 1 rfl (by decide) rfl (by first | exact Or.inl rfl | exact Or.inr (Or.inl rfl) | exact Or.inr (Or.inr rfl))) (ea_cons (ex_flat (ex_fld cf_Form nf_Form_high (ex_var (k := .lab none [0] false) 0 rfl (by decide) rfl (by first | exact Or.inl rfl | exact Or.inr (Or.inl rfl) | exact Or.inr (Or.inr rfl))))) (ea_nil)))) (eg_name sc.nd (i := 3) rfl (by first | exact Or.inl rfl | exact Or.inr rfl))
        (ss_conv (Γ' := [.lab none [0] false, .flat, .flat, .dead, .dead, .dead]) [] (ss_one (sx_for 5 rfl PassesOwn.never (ei_range2 rfl b_range (ea_cons (ex_var (k := .flat) 1 rfl (by decide) rfl (by first | exact Or.inl rfl | exact Or.inr (Or.inl rfl) | exact Or.inr (Or.inr rfl))) (ea_cons (ex_flat (ex_fld cf_Form nf_Form_wide (ex_var (k := .lab none [0] false) 0 rfl (by decide) rfl (by first | exact Or.inl rfl | exact Or.inr (Or.inl rfl) | exact Or.inr (Or.inr rfl))))) (ea_nil)))) (eg_name sc.nd (i := 4) rfl (by first | exact Or.inl rfl | exact Or.inr rfl))
        (ss_conv (Γ' := [.lab none [0] false, .flat, .flat, .flat, .dead, .dead]) [] (ss_cons (sx_set (i := 5) 6 7 sc.nd rfl (by first | exact Or.inl rfl | exact Or.inr rfl) (ex_callB call_abs cp_abs rfl b_abs (by decide +kernel) (ea_cons (ex_flat (ex_idx (ex_idx (ex_fld cf_Form nf_Form_rows (ex_var (k := .lab none [0] false) 0 rfl (by decide) rfl (by first | exact Or.inl rfl | exact Or.inr (Or.inl rfl) | exact Or.inr (Or.inr rfl)))) (ex_var (k := .flat) 3 rfl (by decide) rfl (by first | exact Or.inl rfl | exact Or.inr (Or.inl rfl) | exact Or.inr (Or.inr rfl)))) (ex_var (k := .flat) 4 rfl (by decide) rfl (by first | exact Or.inl rfl | exact Or.inr (Or.inl rfl) | exact Or.inr (Or.inr rfl))))) (ea_nil))))
        (ss_one (sx_if (et_w (ew_and (et_gt (ex_var (k := .flat) 5 rfl (by decide) rfl (by first | exact Or.inl rfl | exact Or.inr (Or.inl rfl) | exact Or.inr (Or.inr rfl))) (ex_int)) (ew_and1 (et_w (ew_or (et_isN (ex_var (k := .flat) 2 rfl (by decide) rfl (by first | exact Or.inl rfl | exact Or.inr (Or.inl rfl) | exact Or.inr (Or.inr rfl))) (ex_non)) (ew_or1 (et_lt (ex_var (k := .flat) 5 rfl (by decide) rfl (by first | exact Or.inl rfl | exact Or.inr (Or.inl rfl) | exact Or.inr (Or.inr rfl))) (ex_callB call_abs cp_abs rfl b_abs (by decide +kernel) (ea_cons (ex_flat (ex_idx (ex_idx (ex_fld cf_Form nf_Form_rows (ex_var (k := .lab none [0] false) 0 rfl (by decide) rfl (by first | exact Or.inl rfl | exact Or.inr (Or.inl rfl) | exact Or.inr (Or.inr rfl)))) (ex_idx (ex_var (k := .flat) 2 rfl (by decide) rfl (by first | exact Or.inl rfl | exact Or.inr (Or.inl rfl) | exact Or.inr (Or.inr rfl))) (ex_int))) (ex_idx (ex_var (k := .flat) 2 rfl (by decide) rfl (by first | exact Or.inl rfl | exact Or.inr (Or.inl rfl) | exact Or.inr (Or.inr rfl))) (ex_int)))) (ea_nil))))))))))
        (ss_one (sx_set (i := 2) 8 9 sc.nd rfl (by first | exact Or.inl rfl | exact Or.inr rfl) (ex_tup (ea_cons (ex_var (k := .flat) 3 rfl (by decide) rfl (by first | exact Or.inl rfl | exact Or.inr (Or.inl rfl) | exact Or.inr (Or.inr rfl))) (ea_cons (ex_var (k := .flat) 4 rfl (by decide) rfl (by first | exact Or.inl rfl | exact Or.inr (Or.inl rfl) | exact Or.inr (Or.inr rfl))) (ea_nil))))))
        (ss_nil)))) (by decide) (by decide)))) (by decide) (by decide)))
        (ss_one (sx_ret (ex_var (k := .flat) 2 rfl (by decide) rfl (by first | exact Or.inl rfl | exact Or.inr (Or.inl rfl) | exact Or.inr (Or.inr rfl)))))))
theorem cal_Form_least_from {f C : Addr} {fd : FuncData} (F : FunD K "least_from" "Form.least_from" (defArgs s_Form_least_from) (defBody s_Form_least_from) (defScope s_Form_least_from) [] [] f fd) (hC : mg "Form" = some (.ref C)) (hcl : Cls K C) (hm : Meth K C "least_from" f) (cf_Form : ClsF K mg "Form") (nf_Form_high : NoF K mg "Form" "high") (nf_Form_rows : NoF K mg "Form" "rows") (nf_Form_wide : NoF K mg "Form" "wide") (b_abs : mg "abs" = none) (b_range : mg "range" = none) : CalM P w K mg base "Form" "least_from" 1 ["self", "k"] f_Form_least_from .flat :=
  ⟨f, fd, C, ok_Form_least_from F cf_Form nf_Form_high nf_Form_rows nf_Form_wide b_abs b_range, hC, hcl, hm, FunD.bindsN F fun _ _ _ _ _ _ us hl => match us, hl with | [_, _], _ => rfl⟩
theorem sc_swap_rows : FnScope N_swap_rows ["rows", "i", "j"] (defScope s_swap_rows) := ⟨rfl, rfl, rfl, by decide +kernel, rfl, by decide +kernel, by decide +kernel⟩
theorem ok_swap_rows {f : Addr} {fd : FuncData} (F : FnP K "swap_rows" s_swap_rows f fd) : FnOk P w K mg base CX0 1 f fd ["rows", "i", "j"] (spO ⟨mg, K⟩ f_swap_rows 3) := by
  have sc := sc_swap_rows
  let N : List Str := N_swap_rows
  let st : Stmt := s_swap_rows
  refine fn_okO (Γ' := [.ow true 1 [2], .flat, .flat]) (L := [2]) (Lr := [2]) (sc := ⟨[], [.ow true 1 [2], .flat, .flat], [.ow true 1 [2], .flat, .flat]⟩) (k := 0) F sc [.flat, .flat] rfl (by decide) rfl rfl rfl (by decide) fun cdv A outer s0 H E hr => ?_
  exact (so_seq (sx_oswap (i := 0) (fl := true) (n := 1) (L := [2]) 2 1 2 rfl rfl rfl rfl rfl (by first | exact Or.inl rfl | exact Or.inr (Or.inl rfl) | exact Or.inr (Or.inr rfl)) rfl rfl (by first | exact Or.inl rfl | exact Or.inr (Or.inl rfl) | exact Or.inr (Or.inr rfl)) (by first | exact Or.inl rfl | exact Or.inr (Or.inl rfl) | exact Or.inr (Or.inr rfl)))
        (so_end [] (by decide) (by decide)))
theorem cal_swap_rows {f : Addr} {fd : FuncData} (F : FnP K "swap_rows" s_swap_rows f fd) (h : mg "swap_rows" = some (.ref f)) : CalFO P w K mg base "swap_rows" 1 ["rows", "i", "j"] f_swap_rows :=
  ⟨f, fd, ok_swap_rows F, h, F.kp, FunD.bindsN F fun _ _ _ _ _ _ us hl => match us, hl with | [_, _, _], _ => rfl⟩
theorem sc_swap_columns : FnScope N_swap_columns ["rows", "i", "j"] (defScope s_swap_columns) := ⟨rfl, rfl, rfl, by decide +kernel, rfl, by decide +kernel, by decide +kernel⟩
theorem ok_swap_columns {f : Addr} {fd : FuncData} (F : FnP K "swap_columns" s_swap_columns f fd) : FnOk P w K mg base CX0 1 f fd ["rows", "i", "j"] (spO ⟨mg, K⟩ f_swap_columns 3) := by
  have sc := sc_swap_columns
  let N : List Str := N_swap_columns
  let st : Stmt := s_swap_columns
  refine fn_okO (Γ' := [.ow true 1 [2], .flat, .flat, .dead]) (L := [2]) (Lr := [2]) (sc := ⟨[], [.ow true 1 [2], .flat, .flat, .dead], [.ow true 1 [2], .flat, .flat, .dead]⟩) (k := 0) F sc [.flat, .flat] rfl (by decide) rfl rfl rfl (by decide) fun cdv A outer s0 H E hr => ?_
  exact (so_seq (row_swp (i := 0) (fl := true) (n := 1) (L := [2]) 3 1 2 rfl rfl rfl (by decide) (by decide) rfl PassesOwn.never sc.nd rfl (by first | exact Or.inl rfl | exact Or.inr (Or.inl rfl) | exact Or.inr (Or.inr rfl)) rfl (by first | exact Or.inl rfl | exact Or.inr rfl) (by first | exact Or.inl rfl | exact Or.inr (Or.inl rfl) | exact Or.inr (Or.inr rfl)) rfl rfl (by first | exact Or.inl rfl | exact Or.inr (Or.inl rfl) | exact Or.inr (Or.inr rfl)) (by first | exact Or.inl rfl | exact Or.inr (Or.inl rfl) | exact Or.inr (Or.inr rfl)))
        (so_end [] (by decide) (by decide)))
theorem cal_swap_columns {f : Addr} {fd : FuncData} (F : FnP K "swap_columns" s_swap_columns f fd) (h : mg "swap_columns" = some (.ref f)) : CalFO P w K mg base "swap_columns" 1 ["rows", "i", "j"] f_swap_columns :=
  ⟨f, fd, ok_swap_columns F, h, F.kp, FunD.bindsN F fun _ _ _ _ _ _ us hl => match us, hl with | [_, _, _], _ => rfl⟩
theorem sc_Form_swap_down : FnScope N_Form_swap_down ["self", "i", "j"] (defScope s_Form_swap_down) := ⟨rfl, rfl, rfl, by decide +kernel, rfl, by decide +kernel, by decide +kernel⟩
theorem ok_Form_swap_down {f : Addr} {fd : FuncData} (F : FunD K "swap_down" "Form.swap_down" (defArgs s_Form_swap_down) (defBody s_Form_swap_down) (defScope s_Form_swap_down) [] [] f fd) (cf_Form : ClsF K mg "Form") (nf_Form_left : NoF K mg "Form" "left") (nf_Form_left_back : NoF K mg "Form" "left_back") (nf_Form_rows : NoF K mg "Form" "rows") (cfo_swap_rows : CalFO P w K mg base "swap_rows" 1 ["rows", "i", "j"] f_swap_rows) (cfo_swap_columns : CalFO P w K mg base "swap_columns" 1 ["rows", "i", "j"] f_swap_columns) : FnOk P w K mg base CX0 2 f fd ["self", "i", "j"] (spO ⟨mg, K⟩ f_Form_swap_down 3) := by
  have sc := sc_Form_swap_down
  let N : List Str := N_Form_swap_down
  let st : Stmt := s_Form_swap_down
  refine fn_okO (Γ' := [.ow true 1 [2], .flat, .flat]) (L := [2]) (Lr := [2]) (sc := ⟨[], [.ow true 1 [2], .flat, .flat], [.ow true 1 [2], .flat, .flat]⟩) (k := 1) F sc [.flat, .flat] rfl (by decide) rfl rfl rfl (by decide) fun cdv A outer s0 H E hr => ?_
  exact (so_seq (sx_oattr (i := 0) (fl := true) (n := 1) (L := [2]) 2 cfo_swap_rows (hr.mono (by decide)) rfl cf_Form nf_Form_rows rfl rfl (by first | exact Or.inl rfl | exact Or.inr (Or.inl rfl) | exact Or.inr (Or.inr rfl)) (ea_cons (ex_var (k := .flat) 1 rfl (by decide) rfl (by first | exact Or.inl rfl | exact Or.inr (Or.inl rfl) | exact Or.inr (Or.inr rfl))) (ea_cons (ex_var (k := .flat) 2 rfl (by decide) rfl (by first | exact Or.inl rfl | exact Or.inr (Or.inl rfl) | exact Or.inr (Or.inr rfl))) (ea_nil))))
        (so_seq (sx_oattr (i := 0) (fl := true) (n := 1) (L := [2, 2]) 2 cfo_swap_rows (hr.mono (by decide)) rfl cf_Form nf_Form_left rfl rfl (by first | exact Or.inl rfl | exact Or.inr (Or.inl rfl) | exact Or.inr (Or.inr rfl)) (ea_cons (ex_var (k := .flat) 1 rfl (by decide) rfl (by first | exact Or.inl rfl | exact Or.inr (Or.inl rfl) | exact Or.inr (Or.inr rfl))) (ea_cons (ex_var (k := .flat) 2 rfl (by decide) rfl (by first | exact Or.inl rfl | exact Or.inr (Or.inl rfl) | exact Or.inr (Or.inr rfl))) (ea_nil))))
        (so_seq (sx_oattr (i := 0) (fl := true) (n := 1) (L := [2, 2, 2]) 2 cfo_swap_columns (hr.mono (by decide)) rfl cf_Form nf_Form_left_back rfl rfl (by first | exact Or.inl rfl | exact Or.inr (Or.inl rfl) | exact Or.inr (Or.inr rfl)) (ea_cons (ex_var (k := .flat) 1 rfl (by decide) rfl (by first | exact Or.inl rfl | exact Or.inr (Or.inl rfl) | exact Or.inr (Or.inr rfl))) (ea_cons (ex_var (k := .flat) 2 rfl (by decide) rfl (by first | exact Or.inl rfl | exact Or.inr (Or.inl rfl) | exact Or.inr (Or.inr rfl))) (ea_nil))))
        (so_end [] (by decide) (by decide)))))
theorem cal_Form_swap_down {f C : Addr} {fd : FuncData} (F : FunD K "swap_down" "Form.swap_down" (defArgs s_Form_swap_down) (defBody s_Form_swap_down) (defScope s_Form_swap_down) [] [] f fd) (hC : mg "Form" = some (.ref C)) (hcl : Cls K C) (hm : Meth K C "swap_down" f) (cf_Form : ClsF K mg "Form") (nf_Form_left : NoF K mg "Form" "left") (nf_Form_left_back : NoF K mg "Form" "left_back") (nf_Form_rows : NoF K mg "Form" "rows") (cfo_swap_rows : CalFO P w K mg base "swap_rows" 1 ["rows", "i", "j"] f_swap_rows) (cfo_swap_columns : CalFO P w K mg base "swap_columns" 1 ["rows", "i", "j"] f_swap_columns) : CalMO P w K mg base "Form" "swap_down" 2 ["self", "i", "j"] f_Form_swap_down :=
  ⟨f, fd, C, ok_Form_swap_down F cf_Form nf_Form_left nf_Form_left_back nf_Form_rows cfo_swap_rows cfo_swap_columns, hC, hcl, hm, FunD.bindsN F fun _ _ _ _ _ _ us hl => match us, hl with | [_, _, _], _ => rfl⟩
theorem sc_Form_swap_over : FnScope N_Form_swap_over ["self", "i", "j"] (defScope s_Form_swap_over) := ⟨rfl, rfl, rfl, by decide +kernel, rfl, by decide +kernel, by decide +kernel⟩
theorem ok_Form_swap_over {f : Addr} {fd : FuncData} (F : FunD K "swap_over" "Form.swap_over" (defArgs s_Form_swap_over) (defBody s_Form_swap_over) (defScope s_Form_swap_over) [] [] f fd) (cf_Form : ClsF K mg "Form") (nf_Form_right : NoF K mg "Form" "right") (nf_Form_right_back : NoF K mg "Form" "right_back") (nf_Form_rows : NoF K mg "Form" "rows") (cfo_swap_columns : CalFO P w K mg base "swap_columns" 1 ["rows", "i", "j"] f_swap_columns) (cfo_swap_rows : CalFO P w K mg base "swap_rows" 1 ["rows", "i", "j"] f_swap_rows) : FnOk P w K mg base CX0 2 f fd ["self", "i", "j"] (spO ⟨mg, K⟩ f_Form_swap_over 3) := by
  have sc := sc_Form_swap_over
  let N : List Str := N_Form_swap_over
  let st : Stmt := s_Form_swap_over
  refine fn_okO (Γ' := [.ow true 1 [2], .flat, .flat]) (L := [2]) (Lr := [2]) (sc := ⟨[], [.ow true 1 [2], .flat, .flat], [.ow true 1 [2], .flat, .flat]⟩) (k := 1) F sc [.flat, .flat] rfl (by decide) rfl rfl rfl (by decide) fun cdv A outer s0 H E hr => ?_
  exact (so_seq (sx_oattr (i := 0) (fl := true) (n := 1) (L := [2]) 2 cfo_swap_columns (hr.mono (by decide)) rfl cf_Form nf_Form_rows rfl rfl (by first | exact Or.inl rfl | exact Or.inr (Or.inl rfl) | exact Or.inr (Or.inr rfl)) (ea_cons (ex_var (k := .flat) 1 rfl (by decide) rfl (by first | exact Or.inl rfl | exact Or.inr (Or.inl rfl) | exact Or.inr (Or.inr rfl))) (ea_cons (ex_var (k := .flat) 2 rfl (by decide) rfl (by first | exact Or.inl rfl | exact Or.inr (Or.inl rfl) | exact Or.inr (Or.inr rfl))) (ea_nil))))
        (so_seq (sx_oattr (i := 0) (fl := true) (n := 1) (L := [2, 2]) 2 cfo_swap_columns (hr.mono (by decide)) rfl cf_Form nf_Form_right rfl rfl (by first | exact Or.inl rfl | exact Or.inr (Or.inl rfl) | exact Or.inr (Or.inr rfl)) (ea_cons (ex_var (k := .flat) 1 rfl (by decide) rfl (by first | exact Or.inl rfl | exact Or.inr (Or.inl rfl) | exact Or.inr (Or.inr rfl))) (ea_cons (ex_var (k := .flat) 2 rfl (by decide) rfl (by first | exact Or.inl rfl | exact Or.inr (Or.inl rfl) | exact Or.inr (Or.inr rfl))) (ea_nil))))
        (so_seq (sx_oattr (i := 0) (fl := true) (n := 1) (L := [2, 2, 2]) 2 cfo_swap_rows (hr.mono (by decide)) rfl cf_Form nf_Form_right_back rfl rfl (by first | exact Or.inl rfl | exact Or.inr (Or.inl rfl) | exact Or.inr (Or.inr rfl)) (ea_cons (ex_var (k := .flat) 1 rfl (by decide) rfl (by first | exact Or.inl rfl | exact Or.inr (Or.inl rfl) | exact Or.inr (Or.inr rfl))) (ea_cons (ex_var (k := .flat) 2 rfl (by decide) rfl (by first | exact Or.inl rfl | exact Or.inr (Or.inl rfl) | exact Or.inr (Or.inr rfl))) (ea_nil))))
        (so_end [] (by decide) (by decide)))))
theorem cal_Form_swap_over {f C : Addr} {fd : FuncData} (F : FunD K "swap_over" "Form.swap_over" (defArgs s_Form_swap_over) (defBody s_Form_swap_over) (defScope s_Form_swap_over) [] [] f fd) (hC : mg "Form" = some (.ref C)) (hcl : Cls K C) (hm : Meth K C "swap_over" f) (cf_Form : ClsF K mg "Form") (nf_Form_right : NoF K mg "Form" "right") (nf_Form_right_back : NoF K mg "Form" "right_back") (nf_Form_rows : NoF K mg "Form" "rows") (cfo_swap_columns : CalFO P w K mg base "swap_columns" 1 ["rows", "i", "j"] f_swap_columns) (cfo_swap_rows : CalFO P w K mg base "swap_rows" 1 ["rows", "i", "j"] f_swap_rows) : CalMO P w K mg base "Form" "swap_over" 2 ["self", "i", "j"] f_Form_swap_over :=
  ⟨f, fd, C, ok_Form_swap_over F cf_Form nf_Form_right nf_Form_right_back nf_Form_rows cfo_swap_columns cfo_swap_rows, hC, hcl, hm, FunD.bindsN F fun _ _ _ _ _ _ us hl => match us, hl with | [_, _, _], _ => rfl⟩
theorem sc_Form_bring : FnScope N_Form_bring ["self", "k", "place"] (defScope s_Form_bring) := ⟨rfl, rfl, rfl, by decide +kernel, rfl, by decide +kernel, by decide +kernel⟩
theorem ok_Form_bring {f : Addr} {fd : FuncData} (F : FunD K "bring" "Form.bring" (defArgs s_Form_bring) (defBody s_Form_bring) (defScope s_Form_bring) [] [] f fd) (cmo_Form_swap_down : CalMO P w K mg base "Form" "swap_down" 2 ["self", "i", "j"] f_Form_swap_down) (cmo_Form_swap_over : CalMO P w K mg base "Form" "swap_over" 2 ["self", "i", "j"] f_Form_swap_over) : FnOk P w K mg base CX0 3 f fd ["self", "k", "place"] (spO ⟨mg, K⟩ f_Form_bring 3) := by
  have sc := sc_Form_bring
  let N : List Str := N_Form_bring
  let st : Stmt := s_Form_bring
  refine fn_okO (Γ' := [.ow true 1 [2], .flat, .flat]) (L := [2]) (Lr := [2]) (sc := ⟨[], [.ow true 1 [2], .flat, .flat], [.ow true 1 [2], .flat, .flat]⟩) (k := 2) F sc [.flat, .flat] rfl (by decide) rfl rfl rfl (by decide) fun cdv A outer s0 H E hr => ?_
  exact (so_seq (sx_if (et_ne hr.units (ex_idx (ex_var (k := .flat) 2 rfl (by decide) rfl (by first | exact Or.inl rfl | exact Or.inr (Or.inl rfl) | exact Or.inr (Or.inr rfl))) (ex_int)) (ex_var (k := .flat) 1 rfl (by decide) rfl (by first | exact Or.inl rfl | exact Or.inr (Or.inl rfl) | exact Or.inr (Or.inr rfl))))
        (ss_conv (Γ' := [.ow true 1 [2], .flat, .flat]) [] (ss_one (sx_ometh (i := 0) (fl := true) (n := 1) (L := [2]) 2 cmo_Form_swap_down (hr.mono (by decide)) rfl rfl (by first | exact Or.inl rfl | exact Or.inr (Or.inl rfl) | exact Or.inr (Or.inr rfl)) (ea_cons (ex_var (k := .flat) 1 rfl (by decide) rfl (by first | exact Or.inl rfl | exact Or.inr (Or.inl rfl) | exact Or.inr (Or.inr rfl))) (ea_cons (ex_idx (ex_var (k := .flat) 2 rfl (by decide) rfl (by first | exact Or.inl rfl | exact Or.inr (Or.inl rfl) | exact Or.inr (Or.inr rfl))) (ex_int)) (ea_nil))))) (by decide) (by decide))
        (ss_nil))
        (so_seq (sx_if (et_ne hr.units (ex_idx (ex_var (k := .flat) 2 rfl (by decide) rfl (by first | exact Or.inl rfl | exact Or.inr (Or.inl rfl) | exact Or.inr (Or.inr rfl))) (ex_int)) (ex_var (k := .flat) 1 rfl (by decide) rfl (by first | exact Or.inl rfl | exact Or.inr (Or.inl rfl) | exact Or.inr (Or.inr rfl))))
        (ss_conv (Γ' := [.ow true 1 [2], .flat, .flat]) [] (ss_one (sx_ometh (i := 0) (fl := true) (n := 1) (L := [2]) 2 cmo_Form_swap_over (hr.mono (by decide)) rfl rfl (by first | exact Or.inl rfl | exact Or.inr (Or.inl rfl) | exact Or.inr (Or.inr rfl)) (ea_cons (ex_var (k := .flat) 1 rfl (by decide) rfl (by first | exact Or.inl rfl | exact Or.inr (Or.inl rfl) | exact Or.inr (Or.inr rfl))) (ea_cons (ex_idx (ex_var (k := .flat) 2 rfl (by decide) rfl (by first | exact Or.inl rfl | exact Or.inr (Or.inl rfl) | exact Or.inr (Or.inr rfl))) (ex_int)) (ea_nil))))) (by decide) (by decide))
        (ss_nil))
        (so_end [] (by decide) (by decide))))
theorem cal_Form_bring {f C : Addr} {fd : FuncData} (F : FunD K "bring" "Form.bring" (defArgs s_Form_bring) (defBody s_Form_bring) (defScope s_Form_bring) [] [] f fd) (hC : mg "Form" = some (.ref C)) (hcl : Cls K C) (hm : Meth K C "bring" f) (cmo_Form_swap_down : CalMO P w K mg base "Form" "swap_down" 2 ["self", "i", "j"] f_Form_swap_down) (cmo_Form_swap_over : CalMO P w K mg base "Form" "swap_over" 2 ["self", "i", "j"] f_Form_swap_over) : CalMO P w K mg base "Form" "bring" 3 ["self", "k", "place"] f_Form_bring :=
  ⟨f, fd, C, ok_Form_bring F cmo_Form_swap_down cmo_Form_swap_over, hC, hcl, hm, FunD.bindsN F fun _ _ _ _ _ _ us hl => match us, hl with | [_, _, _], _ => rfl⟩
theorem sc_add_row : FnScope N_add_row ["rows", "i", "j", "times"] (defScope s_add_row) := ⟨rfl, rfl, rfl, by decide +kernel, rfl, by decide +kernel, by decide +kernel⟩
theorem ok_add_row {f : Addr} {fd : FuncData} (F : FnP K "add_row" s_add_row f fd) (b_zip : mg "zip" = none) : FnOk P w K mg base CX0 1 f fd ["rows", "i", "j", "times"] (spO ⟨mg, K⟩ f_add_row 4) := by
  have sc := sc_add_row
  let N : List Str := N_add_row
  let st : Stmt := s_add_row
  refine fn_okO (Γ' := [.ow true 1 [2], .flat, .flat, .flat, .dead, .dead]) (L := [2]) (Lr := [2]) (sc := ⟨[], [.ow true 1 [2], .flat, .flat, .flat, .dead, .dead], [.ow true 1 [2], .flat, .flat, .flat, .dead, .dead]⟩) (k := 0) F sc [.flat, .flat, .flat] rfl (by decide) rfl rfl rfl (by decide) fun cdv A outer s0 H E hr => ?_
  exact (so_seq (sx_olput (i := 0) (fl := true) (n := 1) (L := [2]) 2 rfl rfl (by first | exact Or.inl rfl | exact Or.inr (Or.inl rfl) | exact Or.inr (Or.inr rfl)) (ex_lc (own := [("one", 4), ("other", 5)]) 12 rfl sc.nd (ei_zip rfl b_zip (ex_idx (ex_varO (fl := true) (n := 1) (L := [2]) 0 rfl rfl (by first | exact Or.inl rfl | exact Or.inr (Or.inl rfl) | exact Or.inr (Or.inr rfl))) (ex_var (k := .flat) 1 rfl (by decide) rfl (by first | exact Or.inl rfl | exact Or.inr (Or.inl rfl) | exact Or.inr (Or.inr rfl)))) (ex_idx (ex_varO (fl := true) (n := 1) (L := [2]) 0 rfl rfl (by first | exact Or.inl rfl | exact Or.inr (Or.inl rfl) | exact Or.inr (Or.inr rfl))) (ex_var (k := .flat) 2 rfl (by decide) rfl (by first | exact Or.inl rfl | exact Or.inr (Or.inl rfl) | exact Or.inr (Or.inr rfl))))) (blkOk_by (by kernel_rfl)) (fun _ _ _ _ _ => eg_tup rfl (egs_cons (eg_flat (eg_name sc.nd (i := 4) rfl (by first | exact Or.inl rfl | exact Or.inr rfl))) (egs_cons (eg_flat (eg_name sc.nd (i := 5) rfl (by first | exact Or.inl rfl | exact Or.inr rfl))) (egs_nil)))) (fun _ _ _ _ _ => ets_nil) (fun _ _ _ _ _ => ex_add (ex_var (k := .flat) 4 rfl (by decide) rfl (by first | exact Or.inl rfl | exact Or.inr (Or.inl rfl) | exact Or.inr (Or.inr rfl))) (ex_mul (ex_var (k := .flat) 3 rfl (by decide) rfl (by first | exact Or.inl rfl | exact Or.inr (Or.inl rfl) | exact Or.inr (Or.inr rfl))) (ex_var (k := .flat) 5 rfl (by decide) rfl (by first | exact Or.inl rfl | exact Or.inr (Or.inl rfl) | exact Or.inr (Or.inr rfl)))))) (ex_var (k := .flat) 1 rfl (by decide) rfl (by first | exact Or.inl rfl | exact Or.inr (Or.inl rfl) | exact Or.inr (Or.inr rfl))))
        (so_end [] (by decide) (by decide)))
theorem cal_add_row {f : Addr} {fd : FuncData} (F : FnP K "add_row" s_add_row f fd) (h : mg "add_row" = some (.ref f)) (b_zip : mg "zip" = none) : CalFO P w K mg base "add_row" 1 ["rows", "i", "j", "times"] f_add_row :=
  ⟨f, fd, ok_add_row F b_zip, h, F.kp, FunD.bindsN F fun _ _ _ _ _ _ us hl => match us, hl with | [_, _, _, _], _ => rfl⟩
theorem sc_add_column : FnScope N_add_column ["rows", "i", "j", "times"] (defScope s_add_column) := ⟨rfl, rfl, rfl, by decide +kernel, rfl, by decide +kernel, by decide +kernel⟩
theorem ok_add_column {f : Addr} {fd : FuncData} (F : FnP K "add_column" s_add_column f fd) : FnOk P w K mg base CX0 1 f fd ["rows", "i", "j", "times"] (spO ⟨mg, K⟩ f_add_column 4) := by
  have sc := sc_add_column
  let N : List Str := N_add_column
  let st : Stmt := s_add_column
  refine fn_okO (Γ' := [.ow true 1 [2], .flat, .flat, .flat, .dead]) (L := [2]) (Lr := [2]) (sc := ⟨[], [.ow true 1 [2], .flat, .flat, .flat, .dead], [.ow true 1 [2], .flat, .flat, .flat, .dead]⟩) (k := 0) F sc [.flat, .flat, .flat] rfl (by decide) rfl rfl rfl (by decide) fun cdv A outer s0 H E hr => ?_
  exact (so_seq (row_add (i := 0) (fl := true) (n := 1) (L := [2]) 4 rfl (by decide) (by decide) rfl PassesOwn.never sc.nd rfl (by first | exact Or.inl rfl | exact Or.inr (Or.inl rfl) | exact Or.inr (Or.inr rfl)) rfl (by first | exact Or.inl rfl | exact Or.inr rfl) (by first | exact Or.inl rfl | exact Or.inr (Or.inl rfl) | exact Or.inr (Or.inr rfl)) (ex_var (k := .flat) 1 rfl (by decide) rfl (by first | exact Or.inl rfl | exact Or.inr (Or.inl rfl) | exact Or.inr (Or.inr rfl))) (ex_mul (ex_var (k := .flat) 3 rfl (by decide) rfl (by first | exact Or.inl rfl | exact Or.inr (Or.inl rfl) | exact Or.inr (Or.inr rfl))) (ex_flat (ex_idx (ex_var (k := .lab none [2] false) 4 rfl (by decide) rfl (by first | exact Or.inl rfl | exact Or.inr (Or.inl rfl) | exact Or.inr (Or.inr rfl))) (ex_var (k := .flat) 2 rfl (by decide) rfl (by first | exact Or.inl rfl | exact Or.inr (Or.inl rfl) | exact Or.inr (Or.inr rfl)))))))
        (so_end [] (by decide) (by decide)))
theorem cal_add_column {f : Addr} {fd : FuncData} (F : FnP K "add_column" s_add_column f fd) (h : mg "add_column" = some (.ref f)) : CalFO P w K mg base "add_column" 1 ["rows", "i", "j", "times"] f_add_column :=
  ⟨f, fd, ok_add_column F, h, F.kp, FunD.bindsN F fun _ _ _ _ _ _ us hl => match us, hl with | [_, _, _, _], _ => rfl⟩
theorem sc_Form_add_down : FnScope N_Form_add_down ["self", "i", "j", "times"] (defScope s_Form_add_down) := ⟨rfl, rfl, rfl, by decide +kernel, rfl, by decide +kernel, by decide +kernel⟩
theorem ok_Form_add_down {f : Addr} {fd : FuncData} (F : FunD K "add_down" "Form.add_down" (defArgs s_Form_add_down) (defBody s_Form_add_down) (defScope s_Form_add_down) [] [] f fd) (cf_Form : ClsF K mg "Form") (nf_Form_left : NoF K mg "Form" "left") (nf_Form_left_back : NoF K mg "Form" "left_back") (nf_Form_rows : NoF K mg "Form" "rows") (cfo_add_row : CalFO P w K mg base "add_row" 1 ["rows", "i", "j", "times"] f_add_row) (cfo_add_column : CalFO P w K mg base "add_column" 1 ["rows", "i", "j", "times"] f_add_column) : FnOk P w K mg base CX0 2 f fd ["self", "i", "j", "times"] (spO ⟨mg, K⟩ f_Form_add_down 4) := by
  have sc := sc_Form_add_down
  let N : List Str := N_Form_add_down
  let st : Stmt := s_Form_add_down
  refine fn_okO (Γ' := [.ow true 1 [2], .flat, .flat, .flat]) (L := [2]) (Lr := [2]) (sc := ⟨[], [.ow true 1 [2], .flat, .flat, .flat], [.ow true 1 [2], .flat, .flat, .flat]⟩) (k := 1) F sc [.flat, .flat, .flat] rfl (by decide) rfl rfl rfl (by decide) fun cdv A outer s0 H E hr => ?_
  exact (so_seq (sx_oattr (i := 0) (fl := true) (n := 1) (L := [2]) 2 cfo_add_row (hr.mono (by decide)) rfl cf_Form nf_Form_rows rfl rfl (by first | exact Or.inl rfl | exact Or.inr (Or.inl rfl) | exact Or.inr (Or.inr rfl)) (ea_cons (ex_var (k := .flat) 1 rfl (by decide) rfl (by first | exact Or.inl rfl | exact Or.inr (Or.inl rfl) | exact Or.inr (Or.inr rfl))) (ea_cons (ex_var (k := .flat) 2 rfl (by decide) rfl (by first | exact Or.inl rfl | exact Or.inr (Or.inl rfl) | exact Or.inr (Or.inr rfl))) (ea_cons (ex_var (k := .flat) 3 rfl (by decide) rfl (by first | exact Or.inl rfl | exact Or.inr (Or.inl rfl) | exact Or.inr (Or.inr rfl))) (ea_nil)))))
        (so_seq (sx_oattr (i := 0) (fl := true) (n := 1) (L := [2, 2]) 2 cfo_add_row (hr.mono (by decide)) rfl cf_Form nf_Form_left rfl rfl (by first | exact Or.inl rfl | exact Or.inr (Or.inl rfl) | exact Or.inr (Or.inr rfl)) (ea_cons (ex_var (k := .flat) 1 rfl (by decide) rfl (by first | exact Or.inl rfl | exact Or.inr (Or.inl rfl) | exact Or.inr (Or.inr rfl))) (ea_cons (ex_var (k := .flat) 2 rfl (by decide) rfl (by first | exact Or.inl rfl | exact Or.inr (Or.inl rfl) | exact Or.inr (Or.inr rfl))) (ea_cons (ex_var (k := .flat) 3 rfl (by decide) rfl (by first | exact Or.inl rfl | exact Or.inr (Or.inl rfl) | exact Or.inr (Or.inr rfl))) (ea_nil)))))
        (so_seq (sx_oattr (i := 0) (fl := true) (n := 1) (L := [2, 2, 2]) 2 cfo_add_column (hr.mono (by decide)) rfl cf_Form nf_Form_left_back rfl rfl (by first | exact Or.inl rfl | exact Or.inr (Or.inl rfl) | exact Or.inr (Or.inr rfl)) (ea_cons (ex_var (k := .flat) 2 rfl (by decide) rfl (by first | exact Or.inl rfl | exact Or.inr (Or.inl rfl) | exact Or.inr (Or.inr rfl))) (ea_cons (ex_var (k := .flat) 1 rfl (by decide) rfl (by first | exact Or.inl rfl | exact Or.inr (Or.inl rfl) | exact Or.inr (Or.inr rfl))) (ea_cons (ex_neg (ex_var (k := .flat) 3 rfl (by decide) rfl (by first | exact Or.inl rfl | exact Or.inr (Or.inl rfl) | exact Or.inr (Or.inr rfl)))) (ea_nil)))))
        (so_end [] (by decide) (by decide)))))
theorem cal_Form_add_down {f C : Addr} {fd : FuncData} (F : FunD K "add_down" "Form.add_down" (defArgs s_Form_add_down) (defBody s_Form_add_down) (defScope s_Form_add_down) [] [] f fd) (hC : mg "Form" = some (.ref C)) (hcl : Cls K C) (hm : Meth K C "add_down" f) (cf_Form : ClsF K mg "Form") (nf_Form_left : NoF K mg "Form" "left") (nf_Form_left_back : NoF K mg "Form" "left_back") (nf_Form_rows : NoF K mg "Form" "rows") (cfo_add_row : CalFO P w K mg base "add_row" 1 ["rows", "i", "j", "times"] f_add_row) (cfo_add_column : CalFO P w K mg base "add_column" 1 ["rows", "i", "j", "times"] f_add_column) : CalMO P w K mg base "Form" "add_down" 2 ["self", "i", "j", "times"] f_Form_add_down :=
  ⟨f, fd, C, ok_Form_add_down F cf_Form nf_Form_left nf_Form_left_back nf_Form_rows cfo_add_row cfo_add_column, hC, hcl, hm, FunD.bindsN F fun _ _ _ _ _ _ us hl => match us, hl with | [_, _, _, _], _ => rfl⟩
theorem sc_Form_clear_down : FnScope N_Form_clear_down ["self", "k"] (defScope s_Form_clear_down) := ⟨rfl, rfl, rfl, by decide +kernel, rfl, by decide +kernel, by decide +kernel⟩
theorem ok_Form_clear_down {f : Addr} {fd : FuncData} (F : FunD K "clear_down" "Form.clear_down" (defArgs s_Form_clear_down) (defBody s_Form_clear_down) (defScope s_Form_clear_down) [] [] f fd) (cf_Form : ClsF K mg "Form") (nf_Form_high : NoF K mg "Form" "high") (nf_Form_rows : NoF K mg "Form" "rows") (b_range : mg "range" = none) (cmo_Form_add_down : CalMO P w K mg base "Form" "add_down" 2 ["self", "i", "j", "times"] f_Form_add_down) : FnOk P w K mg base CX0 3 f fd ["self", "k"] (spO ⟨mg, K⟩ f_Form_clear_down 2) := by
  have sc := sc_Form_clear_down
  let N : List Str := N_Form_clear_down
  let st : Stmt := s_Form_clear_down
  refine fn_okO (Γ' := [.ow true 1 [2], .flat, .dead, .dead]) (L := [2]) (Lr := [2]) (sc := ⟨[], [.ow true 1 [2], .flat, .dead, .dead], [.ow true 1 [2], .flat, .dead, .dead]⟩) (k := 2) F sc [.flat] rfl (by decide) rfl rfl rfl (by decide) fun cdv A outer s0 H E hr => ?_
  exact (so_seq (sx_for 12 rfl PassesOwn.never (ei_range2 rfl b_range (ea_cons (ex_add (ex_var (k := .flat) 1 rfl (by decide) rfl (by first | exact Or.inl rfl | exact Or.inr (Or.inl rfl) | exact Or.inr (Or.inr rfl))) (ex_int)) (ea_cons (ex_flat (ex_fld cf_Form nf_Form_high (ex_varO (fl := true) (n := 1) (L := [2]) 0 rfl rfl (by first | exact Or.inl rfl | exact Or.inr (Or.inl rfl) | exact Or.inr (Or.inr rfl))))) (ea_nil)))) (eg_name sc.nd (i := 2) rfl (by first | exact Or.inl rfl | exact Or.inr rfl))
        (ss_conv (Γ' := [.ow true 1 [2], .flat, .dead, .dead]) [] (ss_cons (sx_set (i := 3) 13 14 sc.nd rfl (by first | exact Or.inl rfl | exact Or.inr rfl) (ex_divF (ex_flat (ex_idx (ex_idx (ex_fld cf_Form nf_Form_rows (ex_varO (fl := true) (n := 1) (L := [2]) 0 rfl rfl (by first | exact Or.inl rfl | exact Or.inr (Or.inl rfl) | exact Or.inr (Or.inr rfl)))) (ex_var (k := .flat) 2 rfl (by decide) rfl (by first | exact Or.inl rfl | exact Or.inr (Or.inl rfl) | exact Or.inr (Or.inr rfl)))) (ex_var (k := .flat) 1 rfl (by decide) rfl (by first | exact Or.inl rfl | exact Or.inr (Or.inl rfl) | exact Or.inr (Or.inr rfl))))) (ex_flat (ex_idx (ex_idx (ex_fld cf_Form nf_Form_rows (ex_varO (fl := true) (n := 1) (L := [2]) 0 rfl rfl (by first | exact Or.inl rfl | exact Or.inr (Or.inl rfl) | exact Or.inr (Or.inr rfl)))) (ex_var (k := .flat) 1 rfl (by decide) rfl (by first | exact Or.inl rfl | exact Or.inr (Or.inl rfl) | exact Or.inr (Or.inr rfl)))) (ex_var (k := .flat) 1 rfl (by decide) rfl (by first | exact Or.inl rfl | exact Or.inr (Or.inl rfl) | exact Or.inr (Or.inr rfl)))))))
        (ss_one (sx_if (et_ne hr.units (ex_var (k := .flat) 3 rfl (by decide) rfl (by first | exact Or.inl rfl | exact Or.inr (Or.inl rfl) | exact Or.inr (Or.inr rfl))) (ex_int))
        (ss_conv (Γ' := [.ow true 1 [2], .flat, .flat, .flat]) [] (ss_one (sx_ometh (i := 0) (fl := true) (n := 1) (L := [2]) 2 cmo_Form_add_down (hr.mono (by decide)) rfl rfl (by first | exact Or.inl rfl | exact Or.inr (Or.inl rfl) | exact Or.inr (Or.inr rfl)) (ea_cons (ex_var (k := .flat) 2 rfl (by decide) rfl (by first | exact Or.inl rfl | exact Or.inr (Or.inl rfl) | exact Or.inr (Or.inr rfl))) (ea_cons (ex_var (k := .flat) 1 rfl (by decide) rfl (by first | exact Or.inl rfl | exact Or.inr (Or.inl rfl) | exact Or.inr (Or.inr rfl))) (ea_cons (ex_neg (ex_var (k := .flat) 3 rfl (by decide) rfl (by first | exact Or.inl rfl | exact Or.inr (Or.inl rfl) | exact Or.inr (Or.inr rfl)))) (ea_nil)))))) (by decide) (by decide))
        (ss_nil)))) (by decide) (by decide)))
        (so_end [] (by decide) (by decide)))
theorem cal_Form_clear_down {f C : Addr} {fd : FuncData} (F : FunD K "clear_down" "Form.clear_down" (defArgs s_Form_clear_down) (defBody s_Form_clear_down) (defScope s_Form_clear_down) [] [] f fd) (hC : mg "Form" = some (.ref C)) (hcl : Cls K C) (hm : Meth K C "clear_down" f) (cf_Form : ClsF K mg "Form") (nf_Form_high : NoF K mg "Form" "high") (nf_Form_rows : NoF K mg "Form" "rows") (b_range : mg "range" = none) (cmo_Form_add_down : CalMO P w K mg base "Form" "add_down" 2 ["self", "i", "j", "times"] f_Form_add_down) : CalMO P w K mg base "Form" "clear_down" 3 ["self", "k"] f_Form_clear_down :=
  ⟨f, fd, C, ok_Form_clear_down F cf_Form nf_Form_high nf_Form_rows b_range cmo_Form_add_down, hC, hcl, hm, FunD.bindsN F fun _ _ _ _ _ _ us hl => match us, hl with | [_, _], _ => rfl⟩
theorem sc_Form_add_over : FnScope N_Form_add_over ["self", "i", "j", "times"] (defScope s_Form_add_over) := ⟨rfl, rfl, rfl, by decide +kernel, rfl, by decide +kernel, by decide +kernel⟩
theorem ok_Form_add_over {f : Addr} {fd : FuncData} (F : FunD K "add_over" "Form.add_over" (defArgs s_Form_add_over) (defBody s_Form_add_over) (defScope s_Form_add_over) [] [] f fd) (cf_Form : ClsF K mg "Form") (nf_Form_right : NoF K mg "Form" "right") (nf_Form_right_back : NoF K mg "Form" "right_back") (nf_Form_rows : NoF K mg "Form" "rows") (cfo_add_column : CalFO P w K mg base "add_column" 1 ["rows", "i", "j", "times"] f_add_column) (cfo_add_row : CalFO P w K mg base "add_row" 1 ["rows", "i", "j", "times"] f_add_row) : FnOk P w K mg base CX0 2 f fd ["self", "i", "j", "times"] (spO ⟨mg, K⟩ f_Form_add_over 4) := by
  have sc := sc_Form_add_over
  let N : List Str := N_Form_add_over
  let st : Stmt := s_Form_add_over
  refine fn_okO (Γ' := [.ow true 1 [2], .flat, .flat, .flat]) (L := [2]) (Lr := [2]) (sc := ⟨[], [.ow true 1 [2], .flat, .flat, .flat], [.ow true 1 [2], .flat, .flat, .flat]⟩) (k := 1) F sc [.flat, .flat, .flat] rfl (by decide) rfl rfl rfl (by decide) fun cdv A outer s0 H E hr => ?_
  exact (so_seq (sx_oattr (i := 0) (fl := true) (n := 1) (L := [2]) 2 cfo_add_column (hr.mono (by decide)) rfl cf_Form nf_Form_rows rfl rfl (by first | exact Or.inl rfl | exact Or.inr (Or.inl rfl) | exact Or.inr (Or.inr rfl)) (ea_cons (ex_var (k := .flat) 1 rfl (by decide) rfl (by first | exact Or.inl rfl | exact Or.inr (Or.inl rfl) | exact Or.inr (Or.inr rfl))) (ea_cons (ex_var (k := .flat) 2 rfl (by decide) rfl (by first | exact Or.inl rfl | exact Or.inr (Or.inl rfl) | exact Or.inr (Or.inr rfl))) (ea_cons (ex_var (k := .flat) 3 rfl (by decide) rfl (by first | exact Or.inl rfl | exact Or.inr (Or.inl rfl) | exact Or.inr (Or.inr rfl))) (ea_nil)))))
        (so_seq (sx_oattr (i := 0) (fl := true) (n := 1) (L := [2, 2]) 2 cfo_add_column (hr.mono (by decide)) rfl cf_Form nf_Form_right rfl rfl (by first | exact Or.inl rfl | exact Or.inr (Or.inl rfl) | exact Or.inr (Or.inr rfl)) (ea_cons (ex_var (k := .flat) 1 rfl (by decide) rfl (by first | exact Or.inl rfl | exact Or.inr (Or.inl rfl) | exact Or.inr (Or.inr rfl))) (ea_cons (ex_var (k := .flat) 2 rfl (by decide) rfl (by first | exact Or.inl rfl | exact Or.inr (Or.inl rfl) | exact Or.inr (Or.inr rfl))) (ea_cons (ex_var (k := .flat) 3 rfl (by decide) rfl (by first | exact Or.inl rfl | exact Or.inr (Or.inl rfl) | exact Or.inr (Or.inr rfl))) (ea_nil)))))
        (so_seq (sx_oattr (i := 0) (fl := true) (n := 1) (L := [2, 2, 2]) 2 cfo_add_row (hr.mono (by decide)) rfl cf_Form nf_Form_right_back rfl rfl (by first | exact Or.inl rfl | exact Or.inr (Or.inl rfl) | exact Or.inr (Or.inr rfl)) (ea_cons (ex_var (k := .flat) 2 rfl (by decide) rfl (by first | exact Or.inl rfl | exact Or.inr (Or.inl rfl) | exact Or.inr (Or.inr rfl))) (ea_cons (ex_var (k := .flat) 1 rfl (by decide) rfl (by first | exact Or.inl rfl | exact Or.inr (Or.inl rfl) | exact Or.inr (Or.inr rfl))) (ea_cons (ex_neg (ex_var (k := .flat) 3 rfl (by decide) rfl (by first | exact Or.inl rfl | exact Or.inr (Or.inl rfl) | exact Or.inr (Or.inr rfl)))) (ea_nil)))))
        (so_end [] (by decide) (by decide)))))
theorem cal_Form_add_over {f C : Addr} {fd : FuncData} (F : FunD K "add_over" "Form.add_over" (defArgs s_Form_add_over) (defBody s_Form_add_over) (defScope s_Form_add_over) [] [] f fd) (hC : mg "Form" = some (.ref C)) (hcl : Cls K C) (hm : Meth K C "add_over" f) (cf_Form : ClsF K mg "Form") (nf_Form_right : NoF K mg "Form" "right") (nf_Form_right_back : NoF K mg "Form" "right_back") (nf_Form_rows : NoF K mg "Form" "rows") (cfo_add_column : CalFO P w K mg base "add_column" 1 ["rows", "i", "j", "times"] f_add_column) (cfo_add_row : CalFO P w K mg base "add_row" 1 ["rows", "i", "j", "times"] f_add_row) : CalMO P w K mg base "Form" "add_over" 2 ["self", "i", "j", "times"] f_Form_add_over :=
  ⟨f, fd, C, ok_Form_add_over F cf_Form nf_Form_right nf_Form_right_back nf_Form_rows cfo_add_column cfo_add_row, hC, hcl, hm, FunD.bindsN F fun _ _ _ _ _ _ us hl => match us, hl with | [_, _, _, _], _ => rfl⟩
theorem sc_Form_clear_over : FnScope N_Form_clear_over ["self", "k"] (defScope s_Form_clear_over) := ⟨rfl, rfl, rfl, by decide +kernel, rfl, by decide +kernel, by decide +kernel⟩
theorem ok_Form_clear_over {f : Addr} {fd : FuncData} (F : FunD K "clear_over" "Form.clear_over" (defArgs s_Form_clear_over) (defBody s_Form_clear_over) (defScope s_Form_clear_over) [] [] f fd) (cf_Form : ClsF K mg "Form") (nf_Form_rows : NoF K mg "Form" "rows") (nf_Form_wide : NoF K mg "Form" "wide") (b_range : mg "range" = none) (cmo_Form_add_over : CalMO P w K mg base "Form" "add_over" 2 ["self", "i", "j", "times"] f_Form_add_over) : FnOk P w K mg base CX0 3 f fd ["self", "k"] (spO ⟨mg, K⟩ f_Form_clear_over 2) := by
  have sc := sc_Form_clear_over
  let N : List Str := N_Form_clear_over
  let st : Stmt := s_Form_clear_over
  refine fn_okO (Γ' := [.ow true 1 [2], .flat, .dead, .dead]) (L := [2]) (Lr := [2]) (sc := ⟨[], [.ow true 1 [2], .flat, .dead, .dead], [.ow true 1 [2], .flat, .dead, .dead]⟩) (k := 2) F sc [.flat] rfl (by decide) rfl rfl rfl (by decide) fun cdv A outer s0 H E hr => ?_
  exact (so_seq (sx_for 12 rfl PassesOwn.never (ei_range2 rfl b_range (ea_cons (ex_add (ex_var (k := .flat) 1 rfl (by decide) rfl (by first | exact Or.inl rfl | exact Or.inr (Or.inl rfl) | exact Or.inr (Or.inr rfl))) (ex_int)) (ea_cons (ex_flat (ex_fld cf_Form nf_Form_wide (ex_varO (fl := true) (n := 1) (L := [2]) 0 rfl rfl (by first | exact Or.inl rfl | exact Or.inr (Or.inl rfl) | exact Or.inr (Or.inr rfl))))) (ea_nil)))) (eg_name sc.nd (i := 2) rfl (by first | exact Or.inl rfl | exact Or.inr rfl))
        (ss_conv (Γ' := [.ow true 1 [2], .flat, .dead, .dead]) [] (ss_cons (sx_set (i := 3) 13 14 sc.nd rfl (by first | exact Or.inl rfl | exact Or.inr rfl) (ex_divF (ex_flat (ex_idx (ex_idx (ex_fld cf_Form nf_Form_rows (ex_varO (fl := true) (n := 1) (L := [2]) 0 rfl rfl (by first | exact Or.inl rfl | exact Or.inr (Or.inl rfl) | exact Or.inr (Or.inr rfl)))) (ex_var (k := .flat) 1 rfl (by decide) rfl (by first | exact Or.inl rfl | exact Or.inr (Or.inl rfl) | exact Or.inr (Or.inr rfl)))) (ex_var (k := .flat) 2 rfl (by decide) rfl (by first | exact Or.inl rfl | exact Or.inr (Or.inl rfl) | exact Or.inr (Or.inr rfl))))) (ex_flat (ex_idx (ex_idx (ex_fld cf_Form nf_Form_rows (ex_varO (fl := true) (n := 1) (L := [2]) 0 rfl rfl (by first | exact Or.inl rfl | exact Or.inr (Or.inl rfl) | exact Or.inr (Or.inr rfl)))) (ex_var (k := .flat) 1 rfl (by decide) rfl (by first | exact Or.inl rfl | exact Or.inr (Or.inl rfl) | exact Or.inr (Or.inr rfl)))) (ex_var (k := .flat) 1 rfl (by decide) rfl (by first | exact Or.inl rfl | exact Or.inr (Or.inl rfl) | exact Or.inr (Or.inr rfl)))))))
        (ss_one (sx_if (et_ne hr.units (ex_var (k := .flat) 3 rfl (by decide) rfl (by first | exact Or.inl rfl | exact Or.inr (Or.inl rfl) | exact Or.inr (Or.inr rfl))) (ex_int))
        (ss_conv (Γ' := [.ow true 1 [2], .flat, .flat, .flat]) [] (ss_one (sx_ometh (i := 0) (fl := true) (n := 1) (L := [2]) 2 cmo_Form_add_over (hr.mono (by decide)) rfl rfl (by first | exact Or.inl rfl | exact Or.inr (Or.inl rfl) | exact Or.inr (Or.inr rfl)) (ea_cons (ex_var (k := .flat) 2 rfl (by decide) rfl (by first | exact Or.inl rfl | exact Or.inr (Or.inl rfl) | exact Or.inr (Or.inr rfl))) (ea_cons (ex_var (k := .flat) 1 rfl (by decide) rfl (by first | exact Or.inl rfl | exact Or.inr (Or.inl rfl) | exact Or.inr (Or.inr rfl))) (ea_cons (ex_neg (ex_var (k := .flat) 3 rfl (by decide) rfl (by first | exact Or.inl rfl | exact Or.inr (Or.inl rfl) | exact Or.inr (Or.inr rfl)))) (ea_nil)))))) (by decide) (by decide))
        (ss_nil)))) (by decide) (by decide)))
        (so_end [] (by decide) (by decide)))
theorem cal_Form_clear_over {f C : Addr} {fd : FuncData} (F : FunD K "clear_over" "Form.clear_over" (defArgs s_Form_clear_over) (defBody s_Form_clear_over) (defScope s_Form_clear_over) [] [] f fd) (hC : mg "Form" = some (.ref C)) (hcl : Cls K C) (hm : Meth K C "clear_over" f) (cf_Form : ClsF K mg "Form") (nf_Form_rows : NoF K mg "Form" "rows") (nf_Form_wide : NoF K mg "Form" "wide") (b_range : mg "range" = none) (cmo_Form_add_over : CalMO P w K mg base "Form" "add_over" 2 ["self", "i", "j", "times"] f_Form_add_over) : CalMO P w K mg base "Form" "clear_over" 3 ["self", "k"] f_Form_clear_over :=
  ⟨f, fd, C, ok_Form_clear_over F cf_Form nf_Form_rows nf_Form_wide b_range cmo_Form_add_over, hC, hcl, hm, FunD.bindsN F fun _ _ _ _ _ _ us hl => match us, hl with | [_, _], _ => rfl⟩
theorem sc_Form_odd_row : FnScope N_Form_odd_row ["self", "k"] (defScope s_Form_odd_row) := ⟨rfl, rfl, rfl, by decide +kernel, rfl, by decide +kernel, by decide +kernel⟩
theorem ok_Form_odd_row {f : Addr} {fd : FuncData} (F : FunD K "odd_row" "Form.odd_row" (defArgs s_Form_odd_row) (defBody s_Form_odd_row) (defScope s_Form_odd_row) [] [] f fd) (cf_Form : ClsF K mg "Form") (nf_Form_high : NoF K mg "Form" "high") (nf_Form_rows : NoF K mg "Form" "rows") (b_range : mg "range" = none) : FnOk P w K mg base CX0 1 f fd ["self", "k"] (sp0 ⟨mg, K⟩ f_Form_odd_row 2 .flat) := by
  have sc := sc_Form_odd_row
  let N : List Str := N_Form_odd_row
  let st : Stmt := s_Form_odd_row
  refine fn_ok0 (Γ' := []) (sc := ⟨[], .flat, [], []⟩) (k := 0) F sc [.lab none [0] false, .flat] rfl (by decide) rfl fun cdv A outer s0 H E hr => ?_
  exact (ss_cons (sx_for 2 rfl PassesOwn.never (ei_range2 rfl b_range (ea_cons (ex_add (ex_var (k := .flat) 1 rfl (by decide) rfl (by first | exact Or.inl rfl | exact Or.inr (Or.inl rfl) | exact Or.inr (Or.inr rfl))) (ex_int)) (ea_cons (ex_flat (ex_fld cf_Form nf_Form_high (ex_var (k := .lab none [0] false) 0 rfl (by decide) rfl (by first | exact Or.inl rfl | exact Or.inr (Or.inl rfl) | exact Or.inr (Or.inr rfl))))) (ea_nil)))) (eg_name sc.nd (i := 2) rfl (by first | exact Or.inl rfl | exact Or.inr rfl))
        (ss_conv (Γ' := [.lab none [0] false, .flat, .dead, .dead]) [] (ss_one (sx_for 3 rfl PassesOwn.never (ei_list (ex_kids (ex_slL (ex_idx (ex_fld cf_Form nf_Form_rows (ex_var (k := .lab none [0] false) 0 rfl (by decide) rfl (by first | exact Or.inl rfl | exact Or.inr (Or.inl rfl) | exact Or.inr (Or.inr rfl)))) (ex_var (k := .flat) 2 rfl (by decide) rfl (by first | exact Or.inl rfl | exact Or.inr (Or.inl rfl) | exact Or.inr (Or.inr rfl)))) (eo_some (ex_add (ex_var (k := .flat) 1 rfl (by decide) rfl (by first | exact Or.inl rfl | exact Or.inr (Or.inl rfl) | exact Or.inr (Or.inr rfl))) (ex_int))) (eo_none)))) (eg_flat (eg_name sc.nd (i := 3) rfl (by first | exact Or.inl rfl | exact Or.inr rfl)))
        (ss_conv (Γ' := [.lab none [0] false, .flat, .flat, .dead]) [] (ss_one (sx_if (et_ne hr.units (ex_modF (ex_var (k := .flat) 3 rfl (by decide) rfl (by first | exact Or.inl rfl | exact Or.inr (Or.inl rfl) | exact Or.inr (Or.inr rfl))) (ex_flat (ex_idx (ex_idx (ex_fld cf_Form nf_Form_rows (ex_var (k := .lab none [0] false) 0 rfl (by decide) rfl (by first | exact Or.inl rfl | exact Or.inr (Or.inl rfl) | exact Or.inr (Or.inr rfl)))) (ex_var (k := .flat) 1 rfl (by decide) rfl (by first | exact Or.inl rfl | exact Or.inr (Or.inl rfl) | exact Or.inr (Or.inr rfl)))) (ex_var (k := .flat) 1 rfl (by decide) rfl (by first | exact Or.inl rfl | exact Or.inr (Or.inl rfl) | exact Or.inr (Or.inr rfl)))))) (ex_int))
        (ss_one (sx_ret (ex_var (k := .flat) 2 rfl (by decide) rfl (by first | exact Or.inl rfl | exact Or.inr (Or.inl rfl) | exact Or.inr (Or.inr rfl)))))
        (ss_nil))) (by decide) (by decide)))) (by decide) (by decide)))
        (ss_one (sx_ret (ex_non))))
theorem cal_Form_odd_row {f C : Addr} {fd : FuncData} (F : FunD K "odd_row" "Form.odd_row" (defArgs s_Form_odd_row) (defBody s_Form_odd_row) (defScope s_Form_odd_row) [] [] f fd) (hC : mg "Form" = some (.ref C)) (hcl : Cls K C) (hm : Meth K C "odd_row" f) (cf_Form : ClsF K mg "Form") (nf_Form_high : NoF K mg "Form" "high") (nf_Form_rows : NoF K mg "Form" "rows") (b_range : mg "range" = none) : CalM P w K mg base "Form" "odd_row" 1 ["self", "k"] f_Form_odd_row .flat :=
  ⟨f, fd, C, ok_Form_odd_row F cf_Form nf_Form_high nf_Form_rows b_range, hC, hcl, hm, FunD.bindsN F fun _ _ _ _ _ _ us hl => match us, hl with | [_, _], _ => rfl⟩
theorem sc_Form_is_clear : FnScope N_Form_is_clear ["self", "k"] (defScope s_Form_is_clear) := ⟨rfl, rfl, rfl, by decide +kernel, rfl, by decide +kernel, by decide +kernel⟩
theorem ok_Form_is_clear {f : Addr} {fd : FuncData} (F : FunD K "is_clear" "Form.is_clear" (defArgs s_Form_is_clear) (defBody s_Form_is_clear) (defScope s_Form_is_clear) [] [] f fd) (cf_Form : ClsF K mg "Form") (nf_Form_high : NoF K mg "Form" "high") (nf_Form_rows : NoF K mg "Form" "rows") (b_all : mg "all" = none) (b_range : mg "range" = none) : FnOk P w K mg base CX0 1 f fd ["self", "k"] (sp0 ⟨mg, K⟩ f_Form_is_clear 2 .flat) := by
  have sc := sc_Form_is_clear
  let N : List Str := N_Form_is_clear
  let st : Stmt := s_Form_is_clear
  refine fn_ok0 (Γ' := []) (sc := ⟨[], .flat, [], []⟩) (k := 0) F sc [.lab none [0] false, .flat] rfl (by decide) rfl fun cdv A outer s0 H E hr => ?_
  exact (ss_cons (sx_setLc (i := 2) (own := [("i", 3)]) 6 4 5 rfl sc.nd rfl rfl (sw_true rfl rfl rfl (by decide +kernel)) (ei_range2 rfl b_range (ea_cons (ex_add (ex_var (k := .flat) 1 rfl (by decide) rfl (by first | exact Or.inl rfl | exact Or.inr (Or.inl rfl) | exact Or.inr (Or.inr rfl))) (ex_int)) (ea_cons (ex_flat (ex_fld cf_Form nf_Form_high (ex_var (k := .lab none [0] false) 0 rfl (by decide) rfl (by first | exact Or.inl rfl | exact Or.inr (Or.inl rfl) | exact Or.inr (Or.inr rfl))))) (ea_nil)))) (blkOk_by (by kernel_rfl)) (fun _ _ _ _ _ => eg_name sc.nd (i := 3) rfl (by first | exact Or.inl rfl | exact Or.inr rfl)) (fun _ _ _ _ _ => ets_nil) (fun _ _ _ _ _ => ex_flat (ex_idx (ex_idx (ex_fld cf_Form nf_Form_rows (ex_var (k := .lab none [0] false) 0 rfl (by decide) rfl (by first | exact Or.inl rfl | exact Or.inr (Or.inl rfl) | exact Or.inr (Or.inr rfl)))) (ex_var (k := .flat) 3 rfl (by decide) rfl (by first | exact Or.inl rfl | exact Or.inr (Or.inl rfl) | exact Or.inr (Or.inr rfl)))) (ex_var (k := .flat) 1 rfl (by decide) rfl (by first | exact Or.inl rfl | exact Or.inr (Or.inl rfl) | exact Or.inr (Or.inr rfl))))))
        (ss_one (sx_ret (ex_callB (cr_all rfl) cp_all rfl b_all (by decide +kernel) (ea_cons (ex_lc (own := [("number", 4)]) 7 rfl sc.nd (ei_list (ex_catF (ex_var (k := .lab (some 4) [] true) 2 rfl (by decide) rfl (by first | exact Or.inl rfl | exact Or.inr (Or.inl rfl) | exact Or.inr (Or.inr rfl))) (ex_kids (ex_slL (ex_idx (ex_fld cf_Form nf_Form_rows (ex_var (k := .lab none [0] false) 0 rfl (by decide) rfl (by first | exact Or.inl rfl | exact Or.inr (Or.inl rfl) | exact Or.inr (Or.inr rfl)))) (ex_var (k := .flat) 1 rfl (by decide) rfl (by first | exact Or.inl rfl | exact Or.inr (Or.inl rfl) | exact Or.inr (Or.inr rfl)))) (eo_some (ex_add (ex_var (k := .flat) 1 rfl (by decide) rfl (by first | exact Or.inl rfl | exact Or.inr (Or.inl rfl) | exact Or.inr (Or.inr rfl))) (ex_int))) (eo_none))))) (blkOk_by (by kernel_rfl)) (fun _ _ _ _ _ => eg_flat (eg_name sc.nd (i := 4) rfl (by first | exact Or.inl rfl | exact Or.inr rfl))) (fun _ _ _ _ _ => ets_nil) (fun _ _ _ _ _ => ex_eq hr.units (ex_var (k := .flat) 4 rfl (by decide) rfl (by first | exact Or.inl rfl | exact Or.inr (Or.inl rfl) | exact Or.inr (Or.inr rfl))) (ex_int))) (ea_nil))))))
theorem cal_Form_is_clear {f C : Addr} {fd : FuncData} (F : FunD K "is_clear" "Form.is_clear" (defArgs s_Form_is_clear) (defBody s_Form_is_clear) (defScope s_Form_is_clear) [] [] f fd) (hC : mg "Form" = some (.ref C)) (hcl : Cls K C) (hm : Meth K C "is_clear" f) (cf_Form : ClsF K mg "Form") (nf_Form_high : NoF K mg "Form" "high") (nf_Form_rows : NoF K mg "Form" "rows") (b_all : mg "all" = none) (b_range : mg "range" = none) : CalM P w K mg base "Form" "is_clear" 1 ["self", "k"] f_Form_is_clear .flat :=
  ⟨f, fd, C, ok_Form_is_clear F cf_Form nf_Form_high nf_Form_rows b_all b_range, hC, hcl, hm, FunD.bindsN F fun _ _ _ _ _ _ us hl => match us, hl with | [_, _], _ => rfl⟩
theorem sc_Form_settle : FnScope N_Form_settle ["self", "k"] (defScope s_Form_settle) := ⟨rfl, rfl, rfl, by decide +kernel, rfl, by decide +kernel, by decide +kernel⟩
theorem ok_Form_settle {f : Addr} {fd : FuncData} (F : FunD K "settle" "Form.settle" (defArgs s_Form_settle) (defBody s_Form_settle) (defScope s_Form_settle) [] [] f fd) (cmo_Form_clear_down : CalMO P w K mg base "Form" "clear_down" 3 ["self", "k"] f_Form_clear_down) (cmo_Form_clear_over : CalMO P w K mg base "Form" "clear_over" 3 ["self", "k"] f_Form_clear_over) (cm_Form_is_clear : CalM P w K mg base "Form" "is_clear" 1 ["self", "k"] f_Form_is_clear .flat) (cmo_Form_bring : CalMO P w K mg base "Form" "bring" 3 ["self", "k", "place"] f_Form_bring) (cm_Form_least_from : CalM P w K mg base "Form" "least_from" 1 ["self", "k"] f_Form_least_from .flat) (cm_Form_odd_row : CalM P w K mg base "Form" "odd_row" 1 ["self", "k"] f_Form_odd_row .flat) (cmo_Form_add_down : CalMO P w K mg base "Form" "add_down" 2 ["self", "i", "j", "times"] f_Form_add_down) : FnOk P w K mg base CX0 4 f fd ["self", "k"] (spO ⟨mg, K⟩ f_Form_settle 2) := by
  have sc := sc_Form_settle
  let N : List Str := N_Form_settle
  let st : Stmt := s_Form_settle
  refine fn_okO (Γ' := [.ow true 1 [2], .flat, .dead]) (L := [2]) (Lr := [2]) (sc := ⟨[], [.ow true 1 [2], .flat, .dead], [.ow true 1 [2], .flat, .dead]⟩) (k := 3) F sc [.flat] rfl (by decide) rfl rfl rfl (by decide) fun cdv A outer s0 H E hr => ?_
  exact (so_while PassesOwn.never (et_val (ex_bl))
        (so_seq (sx_ometh (i := 0) (fl := true) (n := 1) (L := [2]) 2 cmo_Form_clear_down (hr.mono (by decide)) rfl rfl (by first | exact Or.inl rfl | exact Or.inr (Or.inl rfl) | exact Or.inr (Or.inr rfl)) (ea_cons (ex_var (k := .flat) 1 rfl (by decide) rfl (by first | exact Or.inl rfl | exact Or.inr (Or.inl rfl) | exact Or.inr (Or.inr rfl))) (ea_nil)))
        (so_seq (sx_ometh (i := 0) (fl := true) (n := 1) (L := [2, 2]) 2 cmo_Form_clear_over (hr.mono (by decide)) rfl rfl (by first | exact Or.inl rfl | exact Or.inr (Or.inl rfl) | exact Or.inr (Or.inr rfl)) (ea_cons (ex_var (k := .flat) 1 rfl (by decide) rfl (by first | exact Or.inl rfl | exact Or.inr (Or.inl rfl) | exact Or.inr (Or.inr rfl))) (ea_nil)))
        (so_if (Γ2 := []) (et_not (et_val (ex_meth_flat cm_Form_is_clear (hr.mono (by decide)) (ex_varO (fl := true) (n := 1) (L := [2, 2, 2]) 0 rfl rfl (by first | exact Or.inl rfl | exact Or.inr (Or.inl rfl) | exact Or.inr (Or.inr rfl))) (ea_cons (ex_var (k := .flat) 1 rfl (by decide) rfl (by first | exact Or.inl rfl | exact Or.inr (Or.inl rfl) | exact Or.inr (Or.inr rfl))) (ea_nil)))))
        (so_seq (sx_ometh (i := 0) (fl := true) (n := 1) (L := [2, 2, 2]) 2 cmo_Form_bring (hr.mono (by decide)) rfl rfl (by first | exact Or.inl rfl | exact Or.inr (Or.inl rfl) | exact Or.inr (Or.inr rfl)) (ea_cons (ex_var (k := .flat) 1 rfl (by decide) rfl (by first | exact Or.inl rfl | exact Or.inr (Or.inl rfl) | exact Or.inr (Or.inr rfl))) (ea_cons (ex_meth_flat cm_Form_least_from (hr.mono (by decide)) (ex_varO (fl := true) (n := 1) (L := [2, 2, 2]) 0 rfl rfl (by first | exact Or.inl rfl | exact Or.inr (Or.inl rfl) | exact Or.inr (Or.inr rfl))) (ea_cons (ex_var (k := .flat) 1 rfl (by decide) rfl (by first | exact Or.inl rfl | exact Or.inr (Or.inl rfl) | exact Or.inr (Or.inr rfl))) (ea_nil))) (ea_nil))))
        (so_ct [] (by decide) (by decide)))
        (so_seq (sx_set (i := 2) 12 13 sc.nd rfl (by first | exact Or.inl rfl | exact Or.inr rfl) (ex_meth_flat cm_Form_odd_row (hr.mono (by decide)) (ex_varO (fl := true) (n := 1) (L := [2, 2, 2]) 0 rfl rfl (by first | exact Or.inl rfl | exact Or.inr (Or.inl rfl) | exact Or.inr (Or.inr rfl))) (ea_cons (ex_var (k := .flat) 1 rfl (by decide) rfl (by first | exact Or.inl rfl | exact Or.inr (Or.inl rfl) | exact Or.inr (Or.inr rfl))) (ea_nil))))
        (so_if (Γ2 := []) (et_isN (ex_var (k := .flat) 2 rfl (by decide) rfl (by first | exact Or.inl rfl | exact Or.inr (Or.inl rfl) | exact Or.inr (Or.inr rfl))) (ex_non))
        (so_retM [] (by decide) (by decide))
        (so_seq (sx_ometh (i := 0) (fl := true) (n := 1) (L := [2, 2, 2]) 2 cmo_Form_add_down (hr.mono (by decide)) rfl rfl (by first | exact Or.inl rfl | exact Or.inr (Or.inl rfl) | exact Or.inr (Or.inr rfl)) (ea_cons (ex_var (k := .flat) 1 rfl (by decide) rfl (by first | exact Or.inl rfl | exact Or.inr (Or.inl rfl) | exact Or.inr (Or.inr rfl))) (ea_cons (ex_var (k := .flat) 2 rfl (by decide) rfl (by first | exact Or.inl rfl | exact Or.inr (Or.inl rfl) | exact Or.inr (Or.inr rfl))) (ea_cons (ex_int) (ea_nil)))))
        (so_end [] (by decide) (by decide)))))))))
theorem cal_Form_settle {f C : Addr} {fd : FuncData} (F : FunD K "settle" "Form.settle" (defArgs s_Form_settle) (defBody s_Form_settle) (defScope s_Form_settle) [] [] f fd) (hC : mg "Form" = some (.ref C)) (hcl : Cls K C) (hm : Meth K C "settle" f) (cmo_Form_clear_down : CalMO P w K mg base "Form" "clear_down" 3 ["self", "k"] f_Form_clear_down) (cmo_Form_clear_over : CalMO P w K mg base "Form" "clear_over" 3 ["self", "k"] f_Form_clear_over) (cm_Form_is_clear : CalM P w K mg base "Form" "is_clear" 1 ["self", "k"] f_Form_is_clear .flat) (cmo_Form_bring : CalMO P w K mg base "Form" "bring" 3 ["self", "k", "place"] f_Form_bring) (cm_Form_least_from : CalM P w K mg base "Form" "least_from" 1 ["self", "k"] f_Form_least_from .flat) (cm_Form_odd_row : CalM P w K mg base "Form" "odd_row" 1 ["self", "k"] f_Form_odd_row .flat) (cmo_Form_add_down : CalMO P w K mg base "Form" "add_down" 2 ["self", "i", "j", "times"] f_Form_add_down) : CalMO P w K mg base "Form" "settle" 4 ["self", "k"] f_Form_settle :=
  ⟨f, fd, C, ok_Form_settle F cmo_Form_clear_down cmo_Form_clear_over cm_Form_is_clear cmo_Form_bring cm_Form_least_from cm_Form_odd_row cmo_Form_add_down, hC, hcl, hm, FunD.bindsN F fun _ _ _ _ _ _ us hl => match us, hl with | [_, _], _ => rfl⟩
theorem sc_Form_turn_down : FnScope N_Form_turn_down ["self", "i"] (defScope s_Form_turn_down) := ⟨rfl, rfl, rfl, by decide +kernel, rfl, by decide +kernel, by decide +kernel⟩
theorem ok_Form_turn_down {f : Addr} {fd : FuncData} (F : FunD K "turn_down" "Form.turn_down" (defArgs s_Form_turn_down) (defBody s_Form_turn_down) (defScope s_Form_turn_down) [] [] f fd) (cf_Form : ClsF K mg "Form") (nf_Form_left : NoF K mg "Form" "left") (nf_Form_left_back : NoF K mg "Form" "left_back") (nf_Form_rows : NoF K mg "Form" "rows") (cfo_add_row : CalFO P w K mg base "add_row" 1 ["rows", "i", "j", "times"] f_add_row) (cfo_add_column : CalFO P w K mg base "add_column" 1 ["rows", "i", "j", "times"] f_add_column) : FnOk P w K mg base CX0 2 f fd ["self", "i"] (spO ⟨mg, K⟩ f_Form_turn_down 2) := by
  have sc := sc_Form_turn_down
  let N : List Str := N_Form_turn_down
  let st : Stmt := s_Form_turn_down
  refine fn_okO (Γ' := [.ow true 1 [2], .flat]) (L := [2]) (Lr := [2]) (sc := ⟨[], [.ow true 1 [2], .flat], [.ow true 1 [2], .flat]⟩) (k := 1) F sc [.flat] rfl (by decide) rfl rfl rfl (by decide) fun cdv A outer s0 H E hr => ?_
  exact (so_seq (sx_oattr (i := 0) (fl := true) (n := 1) (L := [2]) 2 cfo_add_row (hr.mono (by decide)) rfl cf_Form nf_Form_rows rfl rfl (by first | exact Or.inl rfl | exact Or.inr (Or.inl rfl) | exact Or.inr (Or.inr rfl)) (ea_cons (ex_var (k := .flat) 1 rfl (by decide) rfl (by first | exact Or.inl rfl | exact Or.inr (Or.inl rfl) | exact Or.inr (Or.inr rfl))) (ea_cons (ex_var (k := .flat) 1 rfl (by decide) rfl (by first | exact Or.inl rfl | exact Or.inr (Or.inl rfl) | exact Or.inr (Or.inr rfl))) (ea_cons (ex_neg (ex_int)) (ea_nil)))))
        (so_seq (sx_oattr (i := 0) (fl := true) (n := 1) (L := [2, 2]) 2 cfo_add_row (hr.mono (by decide)) rfl cf_Form nf_Form_left rfl rfl (by first | exact Or.inl rfl | exact Or.inr (Or.inl rfl) | exact Or.inr (Or.inr rfl)) (ea_cons (ex_var (k := .flat) 1 rfl (by decide) rfl (by first | exact Or.inl rfl | exact Or.inr (Or.inl rfl) | exact Or.inr (Or.inr rfl))) (ea_cons (ex_var (k := .flat) 1 rfl (by decide) rfl (by first | exact Or.inl rfl | exact Or.inr (Or.inl rfl) | exact Or.inr (Or.inr rfl))) (ea_cons (ex_neg (ex_int)) (ea_nil)))))
        (so_seq (sx_oattr (i := 0) (fl := true) (n := 1) (L := [2, 2, 2]) 2 cfo_add_column (hr.mono (by decide)) rfl cf_Form nf_Form_left_back rfl rfl (by first | exact Or.inl rfl | exact Or.inr (Or.inl rfl) | exact Or.inr (Or.inr rfl)) (ea_cons (ex_var (k := .flat) 1 rfl (by decide) rfl (by first | exact Or.inl rfl | exact Or.inr (Or.inl rfl) | exact Or.inr (Or.inr rfl))) (ea_cons (ex_var (k := .flat) 1 rfl (by decide) rfl (by first | exact Or.inl rfl | exact Or.inr (Or.inl rfl) | exact Or.inr (Or.inr rfl))) (ea_cons (ex_neg (ex_int)) (ea_nil)))))
        (so_end [] (by decide) (by decide)))))
theorem cal_Form_turn_down {f C : Addr} {fd : FuncData} (F : FunD K "turn_down" "Form.turn_down" (defArgs s_Form_turn_down) (defBody s_Form_turn_down) (defScope s_Form_turn_down) [] [] f fd) (hC : mg "Form" = some (.ref C)) (hcl : Cls K C) (hm : Meth K C "turn_down" f) (cf_Form : ClsF K mg "Form") (nf_Form_left : NoF K mg "Form" "left") (nf_Form_left_back : NoF K mg "Form" "left_back") (nf_Form_rows : NoF K mg "Form" "rows") (cfo_add_row : CalFO P w K mg base "add_row" 1 ["rows", "i", "j", "times"] f_add_row) (cfo_add_column : CalFO P w K mg base "add_column" 1 ["rows", "i", "j", "times"] f_add_column) : CalMO P w K mg base "Form" "turn_down" 2 ["self", "i"] f_Form_turn_down :=
  ⟨f, fd, C, ok_Form_turn_down F cf_Form nf_Form_left nf_Form_left_back nf_Form_rows cfo_add_row cfo_add_column, hC, hcl, hm, FunD.bindsN F fun _ _ _ _ _ _ us hl => match us, hl with | [_, _], _ => rfl⟩
theorem sc_Form_run : FnScope N_Form_run ["self"] (defScope s_Form_run) := ⟨rfl, rfl, rfl, by decide +kernel, rfl, by decide +kernel, by decide +kernel⟩
theorem ok_Form_run {f : Addr} {fd : FuncData} (F : FunD K "run" "Form.run" (defArgs s_Form_run) (defBody s_Form_run) (defScope s_Form_run) [] [] f fd) (cf_Form : ClsF K mg "Form") (nf_Form_high : NoF K mg "Form" "high") (nf_Form_rows : NoF K mg "Form" "rows") (nf_Form_wide : NoF K mg "Form" "wide") (b_min : mg "min" = none) (b_range : mg "range" = none) (cm_Form_least_from : CalM P w K mg base "Form" "least_from" 1 ["self", "k"] f_Form_least_from .flat) (cmo_Form_bring : CalMO P w K mg base "Form" "bring" 3 ["self", "k", "place"] f_Form_bring) (cmo_Form_settle : CalMO P w K mg base "Form" "settle" 4 ["self", "k"] f_Form_settle) (cmo_Form_turn_down : CalMO P w K mg base "Form" "turn_down" 2 ["self", "i"] f_Form_turn_down) : FnOk P w K mg base CX0 5 f fd ["self"] (spO ⟨mg, K⟩ f_Form_run 1) := by
  have sc := sc_Form_run
  let N : List Str := N_Form_run
  let st : Stmt := s_Form_run
  refine fn_okO (Γ' := [.ow true 1 [2], .dead, .dead]) (L := [2]) (Lr := [2]) (sc := ⟨[], [.ow true 1 [2], .dead, .dead], [.ow true 1 [2], .dead, .dead]⟩) (k := 4) F sc [] rfl (by decide) rfl rfl rfl (by decide) fun cdv A outer s0 H E hr => ?_
  exact (so_for 12 rfl PassesOwn.never (ei_range1 rfl b_range (ea_cons (ex_callB (call_min2 rfl) cp_min2 rfl b_min (by decide +kernel) (ea_cons (ex_flat (ex_fld cf_Form nf_Form_high (ex_varO (fl := true) (n := 1) (L := [2]) 0 rfl rfl (by first | exact Or.inl rfl | exact Or.inr (Or.inl rfl) | exact Or.inr (Or.inr rfl))))) (ea_cons (ex_flat (ex_fld cf_Form nf_Form_wide (ex_varO (fl := true) (n := 1) (L := [2]) 0 rfl rfl (by first | exact Or.inl rfl | exact Or.inr (Or.inl rfl) | exact Or.inr (Or.inr rfl))))) (ea_nil)))) (ea_nil))) (eg_name sc.nd (i := 1) rfl (by first | exact Or.inl rfl | exact Or.inr rfl))
        (so_seq (sx_set (i := 2) 13 14 sc.nd rfl (by first | exact Or.inl rfl | exact Or.inr rfl) (ex_meth_flat cm_Form_least_from (hr.mono (by decide)) (ex_varO (fl := true) (n := 1) (L := [2]) 0 rfl rfl (by first | exact Or.inl rfl | exact Or.inr (Or.inl rfl) | exact Or.inr (Or.inr rfl))) (ea_cons (ex_var (k := .flat) 1 rfl (by decide) rfl (by first | exact Or.inl rfl | exact Or.inr (Or.inl rfl) | exact Or.inr (Or.inr rfl))) (ea_nil))))
        (so_if (Γ2 := []) (et_isN (ex_var (k := .flat) 2 rfl (by decide) rfl (by first | exact Or.inl rfl | exact Or.inr (Or.inl rfl) | exact Or.inr (Or.inr rfl))) (ex_non))
        (so_retM [] (by decide) (by decide))
        (so_seq (sx_ometh (i := 0) (fl := true) (n := 1) (L := [2]) 2 cmo_Form_bring (hr.mono (by decide)) rfl rfl (by first | exact Or.inl rfl | exact Or.inr (Or.inl rfl) | exact Or.inr (Or.inr rfl)) (ea_cons (ex_var (k := .flat) 1 rfl (by decide) rfl (by first | exact Or.inl rfl | exact Or.inr (Or.inl rfl) | exact Or.inr (Or.inr rfl))) (ea_cons (ex_var (k := .flat) 2 rfl (by decide) rfl (by first | exact Or.inl rfl | exact Or.inr (Or.inl rfl) | exact Or.inr (Or.inr rfl))) (ea_nil))))
        (so_seq (sx_ometh (i := 0) (fl := true) (n := 1) (L := [2, 2]) 2 cmo_Form_settle (hr.mono (by decide)) rfl rfl (by first | exact Or.inl rfl | exact Or.inr (Or.inl rfl) | exact Or.inr (Or.inr rfl)) (ea_cons (ex_var (k := .flat) 1 rfl (by decide) rfl (by first | exact Or.inl rfl | exact Or.inr (Or.inl rfl) | exact Or.inr (Or.inr rfl))) (ea_nil)))
        (so_seq (sx_if (et_lt (ex_flat (ex_idx (ex_idx (ex_fld cf_Form nf_Form_rows (ex_varO (fl := true) (n := 1) (L := [2, 2, 2]) 0 rfl rfl (by first | exact Or.inl rfl | exact Or.inr (Or.inl rfl) | exact Or.inr (Or.inr rfl)))) (ex_var (k := .flat) 1 rfl (by decide) rfl (by first | exact Or.inl rfl | exact Or.inr (Or.inl rfl) | exact Or.inr (Or.inr rfl)))) (ex_var (k := .flat) 1 rfl (by decide) rfl (by first | exact Or.inl rfl | exact Or.inr (Or.inl rfl) | exact Or.inr (Or.inr rfl))))) (ex_int))
        (ss_conv (Γ' := [.ow true 1 [2], .flat, .flat]) [] (ss_one (sx_ometh (i := 0) (fl := true) (n := 1) (L := [2, 2, 2]) 2 cmo_Form_turn_down (hr.mono (by decide)) rfl rfl (by first | exact Or.inl rfl | exact Or.inr (Or.inl rfl) | exact Or.inr (Or.inr rfl)) (ea_cons (ex_var (k := .flat) 1 rfl (by decide) rfl (by first | exact Or.inl rfl | exact Or.inr (Or.inl rfl) | exact Or.inr (Or.inr rfl))) (ea_nil)))) (by decide) (by decide))
        (ss_conv (Γ' := [.ow true 1 [2], .flat, .flat]) [] (ss_nil) (by decide) (by decide)))
        (so_end [] (by decide) (by decide))))))))
theorem cal_Form_run {f C : Addr} {fd : FuncData} (F : FunD K "run" "Form.run" (defArgs s_Form_run) (defBody s_Form_run) (defScope s_Form_run) [] [] f fd) (hC : mg "Form" = some (.ref C)) (hcl : Cls K C) (hm : Meth K C "run" f) (cf_Form : ClsF K mg "Form") (nf_Form_high : NoF K mg "Form" "high") (nf_Form_rows : NoF K mg "Form" "rows") (nf_Form_wide : NoF K mg "Form" "wide") (b_min : mg "min" = none) (b_range : mg "range" = none) (cm_Form_least_from : CalM P w K mg base "Form" "least_from" 1 ["self", "k"] f_Form_least_from .flat) (cmo_Form_bring : CalMO P w K mg base "Form" "bring" 3 ["self", "k", "place"] f_Form_bring) (cmo_Form_settle : CalMO P w K mg base "Form" "settle" 4 ["self", "k"] f_Form_settle) (cmo_Form_turn_down : CalMO P w K mg base "Form" "turn_down" 2 ["self", "i"] f_Form_turn_down) : CalMO P w K mg base "Form" "run" 5 ["self"] f_Form_run :=
  ⟨f, fd, C, ok_Form_run F cf_Form nf_Form_high nf_Form_rows nf_Form_wide b_min b_range cm_Form_least_from cmo_Form_bring cmo_Form_settle cmo_Form_turn_down, hC, hcl, hm, FunD.bindsN F fun _ _ _ _ _ _ us hl => match us, hl with | [_], _ => rfl⟩
theorem sc_plain_form : FnScope N_plain_form ["one"] (defScope s_plain_form) := ⟨rfl, rfl, rfl, by decide +kernel, rfl, by decide +kernel, by decide +kernel⟩
theorem ok_plain_form {f : Addr} {fd : FuncData} (F : FnP K "plain_form" s_plain_form f fd) (cf_Form : ClsF K mg "Form") (nf_Form_left : NoF K mg "Form" "left") (nf_Form_left_back : NoF K mg "Form" "left_back") (nf_Form_right : NoF K mg "Form" "right") (nf_Form_right_back : NoF K mg "Form" "right_back") (nf_Form_rows : NoF K mg "Form" "rows") (cmo_Form_run : CalMO P w K mg base "Form" "run" 5 ["self"] f_Form_run) (ci_Form : CalI P w K mg base "Form" 2 ["self", "one"] f_Form_init) : FnOk P w K mg base CX0 6 f fd ["one"] (sp0 ⟨mg, K⟩ f_plain_form 1 .news) := by
  have sc := sc_plain_form
  let N : List Str := N_plain_form
  let st : Stmt := s_plain_form
  refine fn_ok0 (Γ' := []) (sc := ⟨[], .news, [], []⟩) (k := 5) F sc [.lab none [0] false] rfl (by decide) rfl fun cdv A outer s0 H E hr => ?_
  exact (ss_cons (sx_setO (i := 1) 2 3 sc.nd rfl (by first | exact Or.inl rfl | exact Or.inr rfl) (ex_make ci_Form (hr.mono (by decide)) rfl (ea_cons (ex_var (k := .lab none [0] false) 0 rfl (by decide) rfl (by first | exact Or.inl rfl | exact Or.inr (Or.inl rfl) | exact Or.inr (Or.inr rfl))) (ea_nil))))
        (ss_cons (sx_ometh0 (i := 1) (fl := false) (n := 2) (L := [3]) 3 cmo_Form_run (hr.mono (by decide)) rfl rfl (by first | exact Or.inl rfl | exact Or.inr (Or.inl rfl) | exact Or.inr (Or.inr rfl)))
        (ss_cons (sx_asg 4 5 (ex_flat (ex_slT (ex_var (k := .lab none [0] false) 0 rfl (by decide) rfl (by first | exact Or.inl rfl | exact Or.inr (Or.inl rfl) | exact Or.inr (Or.inr rfl))) (eo_none) (eo_some (ex_int)))) (eg_tup rfl (egs_cons (eg_name sc.nd (i := 2) rfl (by first | exact Or.inl rfl | exact Or.inr rfl)) (egs_cons (eg_name sc.nd (i := 3) rfl (by first | exact Or.inl rfl | exact Or.inr rfl)) (egs_nil)))))
        (ss_cons (sx_set (i := 4) 6 7 sc.nd rfl (by first | exact Or.inl rfl | exact Or.inr rfl) (ex_tup (ea_cons (ex_var (k := .flat) 2 rfl (by decide) rfl (by first | exact Or.inl rfl | exact Or.inr (Or.inl rfl) | exact Or.inr (Or.inr rfl))) (ea_cons (ex_var (k := .flat) 2 rfl (by decide) rfl (by first | exact Or.inl rfl | exact Or.inr (Or.inl rfl) | exact Or.inr (Or.inr rfl))) (ea_cons (ex_fld cf_Form nf_Form_left (ex_varO (fl := false) (n := 2) (L := [3, 3]) 1 rfl rfl (by first | exact Or.inl rfl | exact Or.inr (Or.inl rfl) | exact Or.inr (Or.inr rfl)))) (ea_nil))))))
        (ss_cons (sx_set (i := 5) 8 9 sc.nd rfl (by first | exact Or.inl rfl | exact Or.inr rfl) (ex_tup (ea_cons (ex_var (k := .flat) 3 rfl (by decide) rfl (by first | exact Or.inl rfl | exact Or.inr (Or.inl rfl) | exact Or.inr (Or.inr rfl))) (ea_cons (ex_var (k := .flat) 3 rfl (by decide) rfl (by first | exact Or.inl rfl | exact Or.inr (Or.inl rfl) | exact Or.inr (Or.inr rfl))) (ea_cons (ex_fld cf_Form nf_Form_right (ex_varO (fl := false) (n := 2) (L := [3, 3]) 1 rfl rfl (by first | exact Or.inl rfl | exact Or.inr (Or.inl rfl) | exact Or.inr (Or.inr rfl)))) (ea_nil))))))
        (ss_one (sx_ret (ex_tup (ea_cons (ex_var (k := .lab none [3, 3] true) 4 rfl (by decide) rfl (by first | exact Or.inl rfl | exact Or.inr (Or.inl rfl) | exact Or.inr (Or.inr rfl))) (ea_cons (ex_tup (ea_cons (ex_var (k := .flat) 2 rfl (by decide) rfl (by first | exact Or.inl rfl | exact Or.inr (Or.inl rfl) | exact Or.inr (Or.inr rfl))) (ea_cons (ex_var (k := .flat) 2 rfl (by decide) rfl (by first | exact Or.inl rfl | exact Or.inr (Or.inl rfl) | exact Or.inr (Or.inr rfl))) (ea_cons (ex_fld cf_Form nf_Form_left_back (ex_varO (fl := false) (n := 2) (L := [3, 3]) 1 rfl rfl (by first | exact Or.inl rfl | exact Or.inr (Or.inl rfl) | exact Or.inr (Or.inr rfl)))) (ea_nil))))) (ea_cons (ex_tup (ea_cons (ex_var (k := .flat) 2 rfl (by decide) rfl (by first | exact Or.inl rfl | exact Or.inr (Or.inl rfl) | exact Or.inr (Or.inr rfl))) (ea_cons (ex_var (k := .flat) 3 rfl (by decide) rfl (by first | exact Or.inl rfl | exact Or.inr (Or.inl rfl) | exact Or.inr (Or.inr rfl))) (ea_cons (ex_fld cf_Form nf_Form_rows (ex_varO (fl := false) (n := 2) (L := [3, 3]) 1 rfl rfl (by first | exact Or.inl rfl | exact Or.inr (Or.inl rfl) | exact Or.inr (Or.inr rfl)))) (ea_nil))))) (ea_cons (ex_var (k := .lab none [3, 3] true) 5 rfl (by decide) rfl (by first | exact Or.inl rfl | exact Or.inr (Or.inl rfl) | exact Or.inr (Or.inr rfl))) (ea_cons (ex_tup (ea_cons (ex_var (k := .flat) 3 rfl (by decide) rfl (by first | exact Or.inl rfl | exact Or.inr (Or.inl rfl) | exact Or.inr (Or.inr rfl))) (ea_cons (ex_var (k := .flat) 3 rfl (by decide) rfl (by first | exact Or.inl rfl | exact Or.inr (Or.inl rfl) | exact Or.inr (Or.inr rfl))) (ea_cons (ex_fld cf_Form nf_Form_right_back (ex_varO (fl := false) (n := 2) (L := [3, 3]) 1 rfl rfl (by first | exact Or.inl rfl | exact Or.inr (Or.inl rfl) | exact Or.inr (Or.inr rfl)))) (ea_nil))))) (ea_nil))))))))))))))
theorem cal_plain_form {f : Addr} {fd : FuncData} (F : FnP K "plain_form" s_plain_form f fd) (h : mg "plain_form" = some (.ref f)) (cf_Form : ClsF K mg "Form") (nf_Form_left : NoF K mg "Form" "left") (nf_Form_left_back : NoF K mg "Form" "left_back") (nf_Form_right : NoF K mg "Form" "right") (nf_Form_right_back : NoF K mg "Form" "right_back") (nf_Form_rows : NoF K mg "Form" "rows") (cmo_Form_run : CalMO P w K mg base "Form" "run" 5 ["self"] f_Form_run) (ci_Form : CalI P w K mg base "Form" 2 ["self", "one"] f_Form_init) : Cal P w K mg base "plain_form" 6 ["one"] f_plain_form .news :=
  ⟨f, fd, ok_plain_form F cf_Form nf_Form_left nf_Form_left_back nf_Form_right nf_Form_right_back nf_Form_rows cmo_Form_run ci_Form, h, F.kp, FunD.bindsN F fun _ _ _ _ _ _ us hl => match us, hl with | [_], _ => rfl⟩
theorem sc_divisors : FnScope N_divisors ["one"] (defScope s_divisors) := ⟨rfl, rfl, rfl, by decide +kernel, rfl, by decide +kernel, by decide +kernel⟩
theorem ok_divisors {f : Addr} {fd : FuncData} (F : FnP K "divisors" s_divisors f fd) (b_min : mg "min" = none) (b_range : mg "range" = none) (c_plain_form : Cal P w K mg base "plain_form" 6 ["one"] f_plain_form .news) : FnOk P w K mg base CX0 7 f fd ["one"] (sp0 ⟨mg, K⟩ f_divisors 1 .fresh) := by
  have sc := sc_divisors
  let N : List Str := N_divisors
  let st : Stmt := s_divisors
  refine fn_ok0 (Γ' := []) (sc := ⟨[], .fresh, [], []⟩) (k := 6) F sc [.lab none [0] false] rfl (by decide) rfl fun cdv A outer s0 H E hr => ?_
  exact (ss_cons (sx_set (i := 1) 2 3 sc.nd rfl (by first | exact Or.inl rfl | exact Or.inr rfl) (ex_idx (ex_calls_news c_plain_form (hr.mono (by decide)) rfl (ea_cons (ex_var (k := .lab none [0] false) 0 rfl (by decide) rfl (by first | exact Or.inl rfl | exact Or.inr (Or.inl rfl) | exact Or.inr (Or.inr rfl))) (ea_nil))) (ex_int)))
        (ss_cons (sx_setLc (i := 2) (own := [("k", 3)]) 8 6 7 rfl sc.nd rfl rfl (sw_true rfl rfl rfl (by decide +kernel)) (ei_range1 rfl b_range (ea_cons (ex_callB (call_min2 rfl) cp_min2 rfl b_min (by decide +kernel) (ea_cons (ex_flat (ex_idx (ex_var (k := .lab none [0] false) 0 rfl (by decide) rfl (by first | exact Or.inl rfl | exact Or.inr (Or.inl rfl) | exact Or.inr (Or.inr rfl))) (ex_int))) (ea_cons (ex_flat (ex_idx (ex_var (k := .lab none [0] false) 0 rfl (by decide) rfl (by first | exact Or.inl rfl | exact Or.inr (Or.inl rfl) | exact Or.inr (Or.inr rfl))) (ex_int))) (ea_nil)))) (ea_nil))) (blkOk_by (by kernel_rfl)) (fun _ _ _ _ _ => eg_name sc.nd (i := 3) rfl (by first | exact Or.inl rfl | exact Or.inr rfl)) (fun _ _ _ _ _ => ets_nil) (fun _ _ _ _ _ => ex_flat (ex_idx (ex_idx (ex_idx (ex_var (k := .lab none [2, 3] false) 1 rfl (by decide) rfl (by first | exact Or.inl rfl | exact Or.inr (Or.inl rfl) | exact Or.inr (Or.inr rfl))) (ex_int)) (ex_var (k := .flat) 3 rfl (by decide) rfl (by first | exact Or.inl rfl | exact Or.inr (Or.inl rfl) | exact Or.inr (Or.inr rfl)))) (ex_var (k := .flat) 3 rfl (by decide) rfl (by first | exact Or.inl rfl | exact Or.inr (Or.inl rfl) | exact Or.inr (Or.inr rfl))))))
        (ss_one (sx_ret (ex_lc (own := [("number", 4)]) 9 rfl sc.nd (ei_list (ex_var (k := .lab (some 6) [] true) 2 rfl (by decide) rfl (by first | exact Or.inl rfl | exact Or.inr (Or.inl rfl) | exact Or.inr (Or.inr rfl)))) (blkOk_by (by kernel_rfl)) (fun _ _ _ _ _ => eg_flat (eg_name sc.nd (i := 4) rfl (by first | exact Or.inl rfl | exact Or.inr rfl))) (fun _ _ _ _ _ => ets_one (et_ne hr.units (ex_var (k := .flat) 4 rfl (by decide) rfl (by first | exact Or.inl rfl | exact Or.inr (Or.inl rfl) | exact Or.inr (Or.inr rfl))) (ex_int))) (fun _ _ _ _ _ => ex_var (k := .flat) 4 rfl (by decide) rfl (by first | exact Or.inl rfl | exact Or.inr (Or.inl rfl) | exact Or.inr (Or.inr rfl))))))))
theorem cal_divisors {f : Addr} {fd : FuncData} (F : FnP K "divisors" s_divisors f fd) (h : mg "divisors" = some (.ref f)) (b_min : mg "min" = none) (b_range : mg "range" = none) (c_plain_form : Cal P w K mg base "plain_form" 6 ["one"] f_plain_form .news) : Cal P w K mg base "divisors" 7 ["one"] f_divisors .fresh :=
  ⟨f, fd, ok_divisors F b_min b_range c_plain_form, h, F.kp, FunD.bindsN F fun _ _ _ _ _ _ us hl => match us, hl with | [_], _ => rfl⟩
theorem sc_gathered : FnScope N_gathered ["numbers"] (defScope s_gathered) := ⟨rfl, rfl, rfl, by decide +kernel, rfl, by decide +kernel, by decide +kernel⟩
theorem ok_gathered {f : Addr} {fd : FuncData} (F : FnP K "gathered" s_gathered f fd) (b_int : mg "int" = none) (b_len : mg "len" = none) (b_range : mg "range" = none) (c_divisors : Cal P w K mg base "divisors" 7 ["one"] f_divisors .fresh) : FnOk P w K mg base CX0 8 f fd ["numbers"] (sp0 ⟨mg, K⟩ f_gathered 1 .fresh) := by
  have sc := sc_gathered
  let N : List Str := N_gathered
  let st : Stmt := s_gathered
  refine fn_ok0 (Γ' := []) (sc := ⟨[], .fresh, [], []⟩) (k := 7) F sc [.lab none [0] false] rfl (by decide) rfl fun cdv A outer s0 H E hr => ?_
  exact (ss_cons (sx_set (i := 1) 2 3 sc.nd rfl (by first | exact Or.inl rfl | exact Or.inr rfl) (ex_callB call_len cp_len rfl b_len boot_len (ea_cons (ex_var (k := .lab none [0] false) 0 rfl (by decide) rfl (by first | exact Or.inl rfl | exact Or.inr (Or.inl rfl) | exact Or.inr (Or.inr rfl))) (ea_nil))))
        (ss_cons (sx_setLc (i := 2) (own := [("row", 3)]) 8 6 7 rfl sc.nd rfl rfl (sw_true rfl rfl rfl (by decide +kernel)) (ei_range1 rfl b_range (ea_cons (ex_var (k := .flat) 1 rfl (by decide) rfl (by first | exact Or.inl rfl | exact Or.inr (Or.inl rfl) | exact Or.inr (Or.inr rfl))) (ea_nil))) (blkOk_by (by kernel_rfl)) (fun _ _ _ _ _ => eg_name sc.nd (i := 3) rfl (by first | exact Or.inl rfl | exact Or.inr rfl)) (fun _ _ _ _ _ => ets_nil) (fun _ _ _ _ _ => ex_lc (own := [("place", 5)]) 9 rfl sc.nd (ei_range1 rfl b_range (ea_cons (ex_var (k := .flat) 1 rfl (by decide) rfl (by first | exact Or.inl rfl | exact Or.inr (Or.inl rfl) | exact Or.inr (Or.inr rfl))) (ea_nil))) (blkOk_by (by kernel_rfl)) (fun _ _ _ _ _ => eg_name sc.nd (i := 5) rfl (by first | exact Or.inl rfl | exact Or.inr rfl)) (fun _ _ _ _ _ => ets_nil) (fun _ _ _ _ _ => ex_mul (ex_flat (ex_idx (ex_var (k := .lab none [0] false) 0 rfl (by decide) rfl (by first | exact Or.inl rfl | exact Or.inr (Or.inl rfl) | exact Or.inr (Or.inr rfl))) (ex_var (k := .flat) 3 rfl (by decide) rfl (by first | exact Or.inl rfl | exact Or.inr (Or.inl rfl) | exact Or.inr (Or.inr rfl))))) (ex_callTy call_int1 cp_int1 rfl b_int (by decide +kernel) (ea_cons (ex_eq hr.units (ex_var (k := .flat) 3 rfl (by decide) rfl (by first | exact Or.inl rfl | exact Or.inr (Or.inl rfl) | exact Or.inr (Or.inr rfl))) (ex_var (k := .flat) 5 rfl (by decide) rfl (by first | exact Or.inl rfl | exact Or.inr (Or.inl rfl) | exact Or.inr (Or.inr rfl)))) (ea_nil))))))
        (ss_one (sx_ret (ex_lc (own := [("number", 4)]) 10 rfl sc.nd (ei_list (ex_kids (ex_calls_fresh c_divisors (hr.mono (by decide)) rfl (ea_cons (ex_tup (ea_cons (ex_var (k := .flat) 1 rfl (by decide) rfl (by first | exact Or.inl rfl | exact Or.inr (Or.inl rfl) | exact Or.inr (Or.inr rfl))) (ea_cons (ex_var (k := .flat) 1 rfl (by decide) rfl (by first | exact Or.inl rfl | exact Or.inr (Or.inl rfl) | exact Or.inr (Or.inr rfl))) (ea_cons (ex_var (k := .lab (some 6) [7] true) 2 rfl (by decide) rfl (by first | exact Or.inl rfl | exact Or.inr (Or.inl rfl) | exact Or.inr (Or.inr rfl))) (ea_nil))))) (ea_nil))))) (blkOk_by (by kernel_rfl)) (fun _ _ _ _ _ => eg_flat (eg_name sc.nd (i := 4) rfl (by first | exact Or.inl rfl | exact Or.inr rfl))) (fun _ _ _ _ _ => ets_one (et_gt (ex_var (k := .flat) 4 rfl (by decide) rfl (by first | exact Or.inl rfl | exact Or.inr (Or.inl rfl) | exact Or.inr (Or.inr rfl))) (ex_int))) (fun _ _ _ _ _ => ex_var (k := .flat) 4 rfl (by decide) rfl (by first | exact Or.inl rfl | exact Or.inr (Or.inl rfl) | exact Or.inr (Or.inr rfl))))))))
theorem cal_gathered {f : Addr} {fd : FuncData} (F : FnP K "gathered" s_gathered f fd) (h : mg "gathered" = some (.ref f)) (b_int : mg "int" = none) (b_len : mg "len" = none) (b_range : mg "range" = none) (c_divisors : Cal P w K mg base "divisors" 7 ["one"] f_divisors .fresh) : Cal P w K mg base "gathered" 8 ["numbers"] f_gathered .fresh :=
  ⟨f, fd, ok_gathered F b_int b_len b_range c_divisors, h, F.kp, FunD.bindsN F fun _ _ _ _ _ _ us hl => match us, hl with | [_], _ => rfl⟩
theorem sc__law_cell_at : FnScope N__law_cell_at ["_law_script", "_law_k"] (defScope s__law_cell_at) := ⟨rfl, rfl, rfl, by decide +kernel, rfl, by decide +kernel, by decide +kernel⟩
theorem ok__law_cell_at {f : Addr} {fd : FuncData} (F : FnP K "_law_cell_at" s__law_cell_at f fd) (b_len : mg "len" = none) : FnOk P w K mg base CX0 1 f fd ["_law_script", "_law_k"] (sp0 ⟨mg, K⟩ f__law_cell_at 2 .flat) := by
  have sc := sc__law_cell_at
  let N : List Str := N__law_cell_at
  let st : Stmt := s__law_cell_at
  refine fn_ok0 (Γ' := []) (sc := ⟨[], .flat, [], []⟩) (k := 0) F sc [.flat, .flat] rfl (by decide) rfl fun cdv A outer s0 H E hr => ?_
  exact (ss_cons (sx_if (et_lt (ex_var (k := .flat) 1 rfl (by decide) rfl (by first | exact Or.inl rfl | exact Or.inr (Or.inl rfl) | exact Or.inr (Or.inr rfl))) (ex_callB call_len cp_len rfl b_len boot_len (ea_cons (ex_var (k := .flat) 0 rfl (by decide) rfl (by first | exact Or.inl rfl | exact Or.inr (Or.inl rfl) | exact Or.inr (Or.inr rfl))) (ea_nil))))
        (ss_one (sx_ret (ex_idx (ex_var (k := .flat) 0 rfl (by decide) rfl (by first | exact Or.inl rfl | exact Or.inr (Or.inl rfl) | exact Or.inr (Or.inr rfl))) (ex_var (k := .flat) 1 rfl (by decide) rfl (by first | exact Or.inl rfl | exact Or.inr (Or.inl rfl) | exact Or.inr (Or.inr rfl))))))
        (ss_nil))
        (ss_one (sx_ret (ex_int))))
theorem cal__law_cell_at {f : Addr} {fd : FuncData} (F : FnP K "_law_cell_at" s__law_cell_at f fd) (h : mg "_law_cell_at" = some (.ref f)) (b_len : mg "len" = none) : Cal P w K mg base "_law_cell_at" 1 ["_law_script", "_law_k"] f__law_cell_at .flat :=
  ⟨f, fd, ok__law_cell_at F b_len, h, F.kp, FunD.bindsN F fun _ _ _ _ _ _ us hl => match us, hl with | [_, _], _ => rfl⟩
theorem sc__law_good : FnScope N__law_good ["_law_found", "_law_due"] (defScope s__law_good) := ⟨rfl, rfl, rfl, by decide +kernel, rfl, by decide +kernel, by decide +kernel⟩
theorem ok__law_good {f : Addr} {fd : FuncData} (F : FnP K "_law_good" s__law_good f fd) (b_bool : mg "bool" = none) (b_int : mg "int" = none) (b_isinstance : mg "isinstance" = none) (b_list : mg "list" = none) : FnOk P w K mg base CX0 1 f fd ["_law_found", "_law_due"] (sp0 ⟨mg, K⟩ f__law_good 2 .flat) := by
  have sc := sc__law_good
  let N : List Str := N__law_good
  let st : Stmt := s__law_good
  refine fn_ok0 (Γ' := []) (sc := ⟨[], .flat, [], []⟩) (k := 0) F sc [.lab none [0] false, .lab none [0] false] rfl (by decide) rfl fun cdv A outer s0 H E hr => ?_
  exact (ss_cons (sx_if (et_w (ew_or (et_not (et_val (ex_isi (Ts := "list") rfl b_isinstance (by decide +kernel) rfl b_list (by decide +kernel) (ex_var (k := .lab none [0] false) 0 rfl (by decide) rfl (by first | exact Or.inl rfl | exact Or.inr (Or.inl rfl) | exact Or.inr (Or.inr rfl)))))) (ew_or1 (et_ne hr.units (ex_var (k := .lab none [0] false) 0 rfl (by decide) rfl (by first | exact Or.inl rfl | exact Or.inr (Or.inl rfl) | exact Or.inr (Or.inr rfl))) (ex_var (k := .lab none [0] false) 1 rfl (by decide) rfl (by first | exact Or.inl rfl | exact Or.inr (Or.inl rfl) | exact Or.inr (Or.inr rfl)))))))
        (ss_one (sx_ret (ex_bl)))
        (ss_nil))
        (ss_cons (sx_for 2 rfl PassesOwn.never (ei_list (ex_var (k := .lab none [0] false) 0 rfl (by decide) rfl (by first | exact Or.inl rfl | exact Or.inr (Or.inl rfl) | exact Or.inr (Or.inr rfl)))) (eg_flat (eg_name sc.nd (i := 2) rfl (by first | exact Or.inl rfl | exact Or.inr rfl)))
        (ss_conv (Γ' := [.lab none [0] false, .lab none [0] false, .dead]) [] (ss_one (sx_if (et_w (ew_or (et_not (et_val (ex_isi (Ts := "int") rfl b_isinstance (by decide +kernel) rfl b_int (by decide +kernel) (ex_var (k := .flat) 2 rfl (by decide) rfl (by first | exact Or.inl rfl | exact Or.inr (Or.inl rfl) | exact Or.inr (Or.inr rfl)))))) (ew_or1 (et_val (ex_isi (Ts := "bool") rfl b_isinstance (by decide +kernel) rfl b_bool (by decide +kernel) (ex_var (k := .flat) 2 rfl (by decide) rfl (by first | exact Or.inl rfl | exact Or.inr (Or.inl rfl) | exact Or.inr (Or.inr rfl))))))))
        (ss_one (sx_ret (ex_bl)))
        (ss_nil))) (by decide) (by decide)))
        (ss_one (sx_ret (ex_bl)))))
theorem cal__law_good {f : Addr} {fd : FuncData} (F : FnP K "_law_good" s__law_good f fd) (h : mg "_law_good" = some (.ref f)) (b_bool : mg "bool" = none) (b_int : mg "int" = none) (b_isinstance : mg "isinstance" = none) (b_list : mg "list" = none) : Cal P w K mg base "_law_good" 1 ["_law_found", "_law_due"] f__law_good .flat :=
  ⟨f, fd, ok__law_good F b_bool b_int b_isinstance b_list, h, F.kp, FunD.bindsN F fun _ _ _ _ _ _ us hl => match us, hl with | [_, _], _ => rfl⟩
theorem sc_law : FnScope N_law ["_law_script"] (defScope s_law) := ⟨rfl, rfl, rfl, by decide +kernel, rfl, by decide +kernel, by decide +kernel⟩
theorem ok_law {f : Addr} {fd : FuncData} (F : FnP K "law" s_law f fd) (b_int : mg "int" = none) (b_list : mg "list" = none) (c__law_row : Cal P w K mg base "_law_row" 1 ["_law_cell", "_law_many", "_law_base"] f__law_row .fresh) (c__law_cell_at : Cal P w K mg base "_law_cell_at" 1 ["_law_script", "_law_k"] f__law_cell_at .flat) (c__law_numbers : Cal P w K mg base "_law_numbers" 2 ["_law_cell", "_law_many"] f__law_numbers .fresh) (c__law_gathered : Cal P w K mg base "_law_gathered" 2 ["_law_numbers_here"] f__law_gathered .fresh) (c_gathered : Cal P w K mg base "gathered" 8 ["numbers"] f_gathered .fresh) (c__law_good : Cal P w K mg base "_law_good" 1 ["_law_found", "_law_due"] f__law_good .flat) : FnOk P w K mg base CX0 9 f fd ["_law_script"] (sp0 ⟨mg, K⟩ f_law 1 .flat) := by
  have sc := sc_law
  let N : List Str := N_law
  let st : Stmt := s_law
  refine fn_ok0 (Γ' := []) (sc := ⟨[], .flat, [], []⟩) (k := 8) F sc [.flat] rfl (by decide) rfl fun cdv A outer s0 H E hr => ?_
  exact (ss_cons (sx_set (i := 1) 2 3 sc.nd rfl (by first | exact Or.inl rfl | exact Or.inr rfl) (ex_kids (ex_calls_fresh c__law_row (hr.mono (by decide)) rfl (ea_cons (ex_calls_flat c__law_cell_at (hr.mono (by decide)) rfl (ea_cons (ex_var (k := .flat) 0 rfl (by decide) rfl (by first | exact Or.inl rfl | exact Or.inr (Or.inl rfl) | exact Or.inr (Or.inr rfl))) (ea_cons (ex_int) (ea_nil)))) (ea_cons (ex_int) (ea_cons (ex_int) (ea_nil)))))))
        (ss_cons (sx_set (i := 2) 4 5 sc.nd rfl (by first | exact Or.inl rfl | exact Or.inr rfl) (ex_mod (ex_flat (ex_idx (ex_var (k := .lab (some 2) [] true) 1 rfl (by decide) rfl (by first | exact Or.inl rfl | exact Or.inr (Or.inl rfl) | exact Or.inr (Or.inr rfl))) (ex_int))) (ex_flat (ex_idx (ex_lst (ea_cons (ex_int) (ea_cons (ex_int) (ea_nil)))) (ex_callTy call_int1 cp_int1 rfl b_int (by decide +kernel) (ea_cons (ex_eq hr.units (ex_mod (ex_flat (ex_idx (ex_var (k := .lab (some 2) [] true) 1 rfl (by decide) rfl (by first | exact Or.inl rfl | exact Or.inr (Or.inl rfl) | exact Or.inr (Or.inr rfl))) (ex_int))) (ex_int)) (ex_int)) (ea_nil)))))))
        (ss_cons (sx_set (i := 3) 6 7 sc.nd rfl (by first | exact Or.inl rfl | exact Or.inr rfl) (ex_kids (ex_calls_fresh c__law_numbers (hr.mono (by decide)) rfl (ea_cons (ex_calls_flat c__law_cell_at (hr.mono (by decide)) rfl (ea_cons (ex_var (k := .flat) 0 rfl (by decide) rfl (by first | exact Or.inl rfl | exact Or.inr (Or.inl rfl) | exact Or.inr (Or.inr rfl))) (ea_cons (ex_int) (ea_nil)))) (ea_cons (ex_var (k := .flat) 2 rfl (by decide) rfl (by first | exact Or.inl rfl | exact Or.inr (Or.inl rfl) | exact Or.inr (Or.inr rfl))) (ea_nil))))))
        (ss_cons (sx_set (i := 4) 8 9 sc.nd rfl (by first | exact Or.inl rfl | exact Or.inr rfl) (ex_kids (ex_calls_fresh c__law_gathered (hr.mono (by decide)) rfl (ea_cons (ex_var (k := .lab (some 6) [] true) 3 rfl (by decide) rfl (by first | exact Or.inl rfl | exact Or.inr (Or.inl rfl) | exact Or.inr (Or.inr rfl))) (ea_nil)))))
        (ss_cons (sx_set (i := 5) 10 11 sc.nd rfl (by first | exact Or.inl rfl | exact Or.inr rfl) (ex_list rfl b_list (by decide +kernel) (ex_var (k := .lab (some 6) [] true) 3 rfl (by decide) rfl (by first | exact Or.inl rfl | exact Or.inr (Or.inl rfl) | exact Or.inr (Or.inr rfl)))))
        (ss_cons (sx_set (i := 6) 12 13 sc.nd rfl (by first | exact Or.inl rfl | exact Or.inr rfl) (ex_kids (ex_calls_fresh c_gathered (hr.mono (by decide)) rfl (ea_cons (ex_var (k := .lab (some 10) [] true) 5 rfl (by decide) rfl (by first | exact Or.inl rfl | exact Or.inr (Or.inl rfl) | exact Or.inr (Or.inr rfl))) (ea_nil)))))
        (ss_cons (sx_if (et_w (ew_or (et_not (et_val (ex_calls_flat c__law_good (hr.mono (by decide)) rfl (ea_cons (ex_var (k := .lab (some 12) [] true) 6 rfl (by decide) rfl (by first | exact Or.inl rfl | exact Or.inr (Or.inl rfl) | exact Or.inr (Or.inr rfl))) (ea_cons (ex_var (k := .lab (some 8) [] true) 4 rfl (by decide) rfl (by first | exact Or.inl rfl | exact Or.inr (Or.inl rfl) | exact Or.inr (Or.inr rfl))) (ea_nil)))))) (ew_or1 (et_ne hr.units (ex_var (k := .lab (some 10) [] true) 5 rfl (by decide) rfl (by first | exact Or.inl rfl | exact Or.inr (Or.inl rfl) | exact Or.inr (Or.inr rfl))) (ex_var (k := .lab (some 6) [] true) 3 rfl (by decide) rfl (by first | exact Or.inl rfl | exact Or.inr (Or.inl rfl) | exact Or.inr (Or.inr rfl)))))))
        (ss_one (sx_ret (ex_bl)))
        (ss_nil))
        (ss_cons (sx_append (i := 6) (n := 12) (L := []) (nd := true) 14 rfl rfl (by first | exact Or.inl rfl | exact Or.inr (Or.inl rfl) | exact Or.inr (Or.inr rfl)) (ex_int))
        (ss_cons (sx_set (i := 7) 15 16 sc.nd rfl (by first | exact Or.inl rfl | exact Or.inr rfl) (ex_mod (ex_flat (ex_idx (ex_var (k := .lab (some 2) [] true) 1 rfl (by decide) rfl (by first | exact Or.inl rfl | exact Or.inr (Or.inl rfl) | exact Or.inr (Or.inr rfl))) (ex_int))) (ex_add (ex_var (k := .flat) 2 rfl (by decide) rfl (by first | exact Or.inl rfl | exact Or.inr (Or.inl rfl) | exact Or.inr (Or.inr rfl))) (ex_int))))
        (ss_cons (sx_set (i := 8) 17 18 sc.nd rfl (by first | exact Or.inl rfl | exact Or.inr rfl) (ex_catF (ex_catF (ex_slL (ex_var (k := .lab (some 6) [] true) 3 rfl (by decide) rfl (by first | exact Or.inl rfl | exact Or.inr (Or.inl rfl) | exact Or.inr (Or.inr rfl))) (eo_some (ex_var (k := .flat) 7 rfl (by decide) rfl (by first | exact Or.inl rfl | exact Or.inr (Or.inl rfl) | exact Or.inr (Or.inr rfl)))) (eo_none)) (ex_lst (ea_cons (ex_int) (ea_nil)))) (ex_stepN (ex_slL (ex_var (k := .lab (some 6) [] true) 3 rfl (by decide) rfl (by first | exact Or.inl rfl | exact Or.inr (Or.inl rfl) | exact Or.inr (Or.inr rfl))) (eo_none) (eo_some (ex_var (k := .flat) 7 rfl (by decide) rfl (by first | exact Or.inl rfl | exact Or.inr (Or.inl rfl) | exact Or.inr (Or.inr rfl))))) (ex_neg (ex_int)))))
        (ss_one (sx_ret (ex_and (ex_calls_flat c__law_good (hr.mono (by decide)) rfl (ea_cons (ex_kids (ex_calls_fresh c_gathered (hr.mono (by decide)) rfl (ea_cons (ex_var (k := .lab (some 10) [] true) 5 rfl (by decide) rfl (by first | exact Or.inl rfl | exact Or.inr (Or.inl rfl) | exact Or.inr (Or.inr rfl))) (ea_nil)))) (ea_cons (ex_var (k := .lab (some 8) [] true) 4 rfl (by decide) rfl (by first | exact Or.inl rfl | exact Or.inr (Or.inl rfl) | exact Or.inr (Or.inr rfl))) (ea_nil)))) (ex_and (ex_calls_flat c__law_good (hr.mono (by decide)) rfl (ea_cons (ex_kids (ex_calls_fresh c_gathered (hr.mono (by decide)) rfl (ea_cons (ex_var (k := .lab (some 17) [] true) 8 rfl (by decide) rfl (by first | exact Or.inl rfl | exact Or.inr (Or.inl rfl) | exact Or.inr (Or.inr rfl))) (ea_nil)))) (ea_cons (ex_var (k := .lab (some 8) [] true) 4 rfl (by decide) rfl (by first | exact Or.inl rfl | exact Or.inr (Or.inl rfl) | exact Or.inr (Or.inr rfl))) (ea_nil)))) (ex_one (ex_calls_flat c__law_good (hr.mono (by decide)) rfl (ea_cons (ex_kids (ex_calls_fresh c_gathered (hr.mono (by decide)) rfl (ea_cons (ex_var (k := .lab (some 8) [] true) 4 rfl (by decide) rfl (by first | exact Or.inl rfl | exact Or.inr (Or.inl rfl) | exact Or.inr (Or.inr rfl))) (ea_nil)))) (ea_cons (ex_var (k := .lab (some 8) [] true) 4 rfl (by decide) rfl (by first | exact Or.inl rfl | exact Or.inr (Or.inl rfl) | exact Or.inr (Or.inr rfl))) (ea_nil)))))))))))))))))))
end
end K42

/-! ## K42a -/
/-! k42: tables as functions; the four procedures on rows -/
namespace K42
open PySem PySem.Spec PyProof.Rows L2 VV VP
/-! ### procedures, evaluated -/
def GoO (s : Svo) (ρ : List D) (Q : OutO → Prop) : Prop := ∃ o, s ρ = some o ∧ Q o
section
variable {ρ : List D} {a : Sv} {b c2 : Svo} {c : List D → Option Bool} {Q : OutO → Prop}
theorem GoO.seq (h : Go a ρ fun o => ∃ ρ', o = .nx ρ' ∧ GoO b ρ' Q) : GoO (oSeq a b) ρ Q := by
  obtain ⟨o, h1, ρ', rfl, o2, h2, h3⟩ := h
  refine ⟨o2, ?_, h3⟩
  unfold oSeq
  rw [h1]
  exact h2
theorem GoO.seq1 {ρ' : List D} (h : a ρ = some (.nx ρ')) (k : GoO b ρ' Q) : GoO (oSeq a b) ρ Q := GoO.seq ⟨_, h, ρ', rfl, k⟩
theorem GoO.nil (h : Q (.nx ρ)) : GoO oNil ρ Q := ⟨_, rfl, h⟩
theorem GoO.ret (h : Q (.rt ρ)) : GoO oRet ρ Q := ⟨_, rfl, h⟩
theorem GoO.ct (h : Q (.ct ρ)) : GoO oCt ρ Q := ⟨_, rfl, h⟩
theorem GoO.no (h : c ρ = some false) (k : GoO c2 ρ Q) : GoO (oIf c b c2) ρ Q := by
  obtain ⟨o, h1, h2⟩ := k
  refine ⟨o, ?_, h2⟩
  unfold oIf
  rw [h]
  exact h1
theorem GoO.yes (h : c ρ = some true) (k : GoO b ρ fun o => (∀ ρ', o ≠ .nx ρ') ∧ Q o) : GoO (oIf c b c2) ρ Q := by
  obtain ⟨o, h1, h2, h3⟩ := k
  refine ⟨o, ?_, h3⟩
  unfold oIf
  rw [h]
  dsimp only
  rw [h1]
  cases o with
  | nx ρ' => exact absurd rfl (h2 ρ')
  | ct ρ' => rfl
  | rt ρ' => rfl
theorem GoO.mono {Q' : OutO → Prop} (h : GoO b ρ Q) (k : ∀ o, Q o → Q' o) : GoO b ρ Q' := by
  obtain ⟨o, h1, h2⟩ := h
  exact ⟨o, h1, k o h2⟩
theorem semO_ok {n : Nat} {pk : List Kd} {d0 d : D} {r : List D} (hp : pkOk pk r = true) (h : GoO b (d0 :: (r ++ List.replicate (n - (r.length + 1)) .non)) fun o => ∃ ρ, (o = .nx ρ ∨ o = .rt ρ) ∧ ρ[0]? = some d) : semO n pk b (d0 :: r) = some d := by
  obtain ⟨o, h1, ρ, h2, h3⟩ := h
  unfold semO
  dsimp only
  rw [if_pos hp, h1]
  rcases h2 with rfl | rfl
  · exact h3
  · exact h3
theorem semO_ex {n : Nat} {pk : List Kd} {d0 : D} {r : List D} {Z : D → Prop} (hp : pkOk pk r = true) (h : GoO b (d0 :: (r ++ List.replicate (n - (r.length + 1)) .non)) fun o => ∃ ρ d, (o = .nx ρ ∨ o = .rt ρ) ∧ ρ[0]? = some d ∧ Z d) : ∃ d, semO n pk b (d0 :: r) = some d ∧ Z d := by
  obtain ⟨o, h1, ρ, d, h2, h3, h4⟩ := h
  exact ⟨d, semO_ok hp ⟨o, h1, ρ, h2, h3⟩, h4⟩
end
/-! ### tables -/
abbrev Mx := Nat → Nat → Int
def tb (n : Nat) (M : Mx) : D := .lst ((List.range n).map fun i => rowD n (M i))
theorem idx_tb {n i : Nat} {M : Mx} (hi : i < n) : dIdx [tb n M, .int i] = some (rowD n (M i)) := by
  unfold tb
  rw [dIdx_l, atI_n, List.getElem?_map, List.getElem?_range hi]
  rfl
theorem idx_row {n j : Nat} {f : Nat → Int} (hj : j < n) : dIdx [rowD n f, .int j] = some (.int (f j)) := by
  unfold rowD
  rw [dIdx_l, atI_n, List.getElem?_map, List.getElem?_range hj]
  rfl
theorem ixN_n {n i : Nat} (h : i < n) : ixN n (i : Int) = some i := by
  unfold ixN
  rw [if_pos (by omega), if_pos (by omega)]
  simp
theorem range_set {n i : Nat} {f : Nat → D} {z : D} (h : i < n) : ((List.range n).map f).set i z = (List.range n).map fun r => if r = i then z else f r := by
  apply List.ext_getElem
  · simp
  · intro k h1 h2
    simp only [List.getElem_set, List.getElem_map, List.getElem_range]
    by_cases e : i = k
    · subst e; simp
    · simp [e, Ne.symm e]
theorem row_flat {n : Nat} {f : Nat → Int} : D.row (rowD n f) = true := by
  show D.isFlatL _ = true
  rw [isFlatL_all]
  simp [D.isFlat]
theorem mapO_map {α : Type} {F : D → Option D} (x y : α → D) : ∀ l : List α, (∀ a ∈ l, F (x a) = some (y a)) → mapO F (l.map x) = some (l.map y)
  | [], _ => rfl
  | a :: r, h => by
    show (F (x a)).bind _ = _
    rw [h a List.mem_cons_self, Option.bind_some, mapO_map x y r fun b hb => h b (List.mem_cons_of_mem _ hb)]
    rfl
def addRow (M : Mx) (i j : Nat) (t : Int) : Mx := fun r c => if r = i then M i c + t * M j c else M r c
def addCol (M : Mx) (i j : Nat) (t : Int) : Mx := fun r c => if c = i then M r i + t * M r j else M r c
def sw (i j r : Nat) : Nat := if r = j then i else if r = i then j else r
def swpRow (M : Mx) (i j : Nat) : Mx := fun r c => M (sw i j r) c
def swpCol (M : Mx) (i j : Nat) : Mx := fun r c => M r (sw i j c)
theorem add_row_ok {n i j : Nat} {M : Mx} {t : Int} (hi : i < n) (hj : j < n) (hc : ∀ c, c < n → CMulX t (M j c)) : f_add_row [tb n M, .int i, .int j, .int t] = some (tb n (addRow M i j t)) := by
  unfold f_add_row
  refine semO_ok (by simp) ?_
  show GoO m_add_row [tb n M, .int i, .int j, .int t, .non, .non] _
  unfold m_add_row
  have e : (eLc (iZipL (aCons (eP dIdx (aCons (eVar 0) (aCons (eVar 1) aNil))) (aCons (eP dIdx (aCons (eVar 0) (aCons (eVar 2) aNil))) aNil))) (gT (gsCons (gF (gN 4)) (gsCons (gF (gN 5)) gsNil))) cYes m_add_row_e1) [tb n M, .int i, .int j, .int t, .non, .non] = some (rowD n fun c => M i c + t * M j c) := by
    rw [eLc_s, iZip_s (l := (List.range n).map fun c => .int (M i c)) (r := (List.range n).map fun c => .int (M j c))]
    · rw [ob_some, List.zip_map', List.map_map]
      have l := lcL_map (t := gT (gsCons (gF (gN 4)) (gsCons (gF (gN 5)) gsNil))) (c := cYes) (e := m_add_row_e1) (ρ := [tb n M, .int i, .int j, .int t, .non, .non]) (fun c : Nat => D.tup [.int (M i c), .int (M j c)]) (fun c => .int (M i c + t * M j c)) (List.range n) fun c hcm => ⟨[tb n M, .int i, .int j, .int t, .int (M i c), .int (M j c)], by simp, by simp, by
        simp [m_add_row_e1, dMul_s (hc c (List.mem_range.mp hcm))]⟩
      refine (congrArg (fun z => Option.ob z fun ys => some (D.lst ys)) l).trans ?_
      rfl
    · simp only [aCons_s, aNil_s, eP_s, eVar_s, List.getElem?_cons_zero, List.getElem?_cons_succ, ob_some]
      rw [idx_tb hi, idx_tb hj]
      rfl
  refine GoO.seq1 (ρ' := [tb n (addRow M i j t), .int i, .int j, .int t, .non, .non]) ?_ (GoO.nil ⟨_, .inl rfl, rfl⟩)
  rw [sPut_s, e]
  simp only [ob_some, eVar_s, List.getElem?_cons_zero, List.getElem?_cons_succ]
  have e2 : lPut (tb n M) (.int i) (rowD n fun c => M i c + t * M j c) = some (tb n (addRow M i j t)) := by
    unfold tb lPut
    simp only [List.length_map, List.length_range, ixN_n hi, Option.map_some]
    rw [range_set hi]
    congr 2
    apply List.map_congr_left
    intro r _
    by_cases h : r = i
    · subst h
      rw [if_pos rfl]
      apply rowD_congr
      intro c _
      simp [addRow]
    · rw [if_neg h]
      apply rowD_congr
      intro c _
      simp [addRow, h]
  rw [e2]
  rfl
theorem row_get {n k : Nat} {f : Nat → Int} (hk : k < n) : ((List.range n).map fun c => D.int (f c))[k]? = some (.int (f k)) := by
  rw [List.getElem?_map, List.getElem?_range hk]; rfl
theorem add_column_ok {n i j : Nat} {M : Mx} {t : Int} (hi : i < n) (hj : j < n) (hc : ∀ r, r < n → CMulX t (M r j)) : f_add_column [tb n M, .int i, .int j, .int t] = some (tb n (addCol M i j t)) := by
  unfold f_add_column
  refine semO_ok (by simp) ?_
  show GoO m_add_column [tb n M, .int i, .int j, .int t, .non] _
  unfold m_add_column
  refine GoO.seq1 (ρ' := [tb n (addCol M i j t), .int i, .int j, .int t, .non]) ?_ (GoO.nil ⟨_, .inl rfl, rfl⟩)
  unfold sOEach
  simp only [List.getElem?_cons_zero, tb]
  rw [if_pos (by simp [row_flat])]
  rw [mapO_map (fun r : Nat => rowD n (M r)) (fun r => rowD n (addCol M i j t r)) (List.range n)]
  · rfl
  · intro r hr
    have hr := List.mem_range.mp hr
    show rowAdd 4 (eVar 1) _ _ (.lst ((List.range n).map fun c => D.int (M r c))) = _
    unfold rowAdd
    dsimp only [List.set_cons_succ, List.set_cons_zero]
    have e2 : (eP dMul (aCons (eVar 3) (aCons (eChk D.isFlat (eP dIdx (aCons (eVar 4) (aCons (eVar 2) aNil)))) aNil))) [.lst ((List.range n).map fun i => rowD n (M i)), .int i, .int j, .int t, .lst ((List.range n).map fun c => D.int (M r c))] = some (.int (t * M r j)) := by
      simp only [eP_s, aCons_s, aNil_s, eVar_s, eChk_s, List.getElem?_cons_zero, List.getElem?_cons_succ, ob_some, dIdx_l, atI_n, row_get hj, Option.filter_some, fl_int, if_true, dMul_s (hc r hr)]
    rw [e2]
    simp only [eVar_s, List.getElem?_cons_zero, List.getElem?_cons_succ, List.length_map, List.length_range, ixN_n hi, Option.bind_some, row_get hi]
    rw [range_set hi]
    congr 2
    apply List.map_congr_left
    intro c _
    by_cases h : c = i
    · subst h; simp [addCol]
    · simp [addCol, h]
theorem sw_get {n i j : Nat} {f : Nat → D} (hi : i < n) (hj : j < n) : (((List.range n).map f).set i (f j)).set j (f i) = (List.range n).map fun r => f (sw i j r) := by
  rw [range_set hi, range_set hj]
  apply List.map_congr_left
  intro r _
  unfold sw
  by_cases h : r = j
  · simp [h]
  · by_cases h2 : r = i
    · subst h2; simp [h]
    · simp [h, h2]
theorem swap_rows_ok {n i j : Nat} {M : Mx} (hi : i < n) (hj : j < n) : f_swap_rows [tb n M, .int i, .int j] = some (tb n (swpRow M i j)) := by
  unfold f_swap_rows
  refine semO_ok (by simp) ?_
  show GoO m_swap_rows [tb n M, .int i, .int j] _
  unfold m_swap_rows
  refine GoO.seq1 (ρ' := [tb n (swpRow M i j), .int i, .int j]) ?_ (GoO.nil ⟨_, .inl rfl, rfl⟩)
  unfold sOSwap
  simp only [List.getElem?_cons_zero, List.getElem?_cons_succ, tb, List.length_map, List.length_range, ixN_n hi, ixN_n hj, Option.bind_some, List.getElem?_map, List.getElem?_range hi, List.getElem?_range hj, Option.map_some]
  rw [sw_get (f := fun r => rowD n (M r)) hi hj]
  rfl
theorem swap_columns_ok {n i j : Nat} {M : Mx} (hi : i < n) (hj : j < n) : f_swap_columns [tb n M, .int i, .int j] = some (tb n (swpCol M i j)) := by
  unfold f_swap_columns
  refine semO_ok (by simp) ?_
  show GoO m_swap_columns [tb n M, .int i, .int j, .non] _
  unfold m_swap_columns
  refine GoO.seq1 (ρ' := [tb n (swpCol M i j), .int i, .int j, .non]) ?_ (GoO.nil ⟨_, .inl rfl, rfl⟩)
  unfold sOEach
  simp only [List.getElem?_cons_zero, tb]
  rw [if_pos (by simp [row_flat])]
  rw [mapO_map (fun r : Nat => rowD n (M r)) (fun r => rowD n (swpCol M i j r)) (List.range n)]
  · rfl
  · intro r hr
    show rowSwp 3 1 2 _ (.lst ((List.range n).map fun c => D.int (M r c))) = _
    unfold rowSwp
    simp only [List.set_cons_succ, List.set_cons_zero, List.getElem?_cons_zero, List.getElem?_cons_succ, List.length_map, List.length_range, ixN_n hi, ixN_n hj, Option.bind_some, row_get hi, row_get hj]
    rw [sw_get (f := fun c => D.int (M r c)) hi hj]
    rfl
end K42

/-! ## VCyc -/
/-! walks that come back: a map of a list of names into itself, injective -/
namespace VP
open PySem PySem.Spec PyProof.Rows L2 VV VP
variable {α : Type} [DecidableEq α]
section
variable {f : α → α} {N : List α} (hm : ∀ n ∈ N, f n ∈ N) (hi : ∀ a ∈ N, ∀ b ∈ N, f a = f b → a = b)
include hm
include hi
end
end VP

/-! ## VCy -/
/-! rounds of an injective map, told by lists; how they change -/
namespace VQ
variable {α : Type} [DecidableEq α]
def Path (φ : α → α) : α → List α → α → Prop
  | a, [], b => φ a = b
  | a, x :: l, b => φ a = x ∧ Path φ x l b
def Rd (φ : α → α) : List α → Prop
  | [] => False
  | x :: l => Path φ x l x
structure Cyc (K : List α) (φ : α → α) (C : List (List α)) : Prop where
  nd : C.flatten.Nodup
  mem : ∀ z, z ∈ C.flatten ↔ z ∈ K
  rd : ∀ c ∈ C, Rd φ c
def Same (C : List (List α)) (a b : α) : Prop := ∃ c ∈ C, a ∈ c ∧ b ∈ c
section
variable {K K' : List α} {φ ψ : α → α} {C : List (List α)}
theorem Cyc.rest {Cs R : List (List α)} (h : Cyc K φ (Cs ++ R)) : Cyc R.flatten φ R := by
  have n := h.nd
  rw [List.flatten_append, List.nodup_append] at n
  exact ⟨n.2.1, fun _ => Iff.rfl, fun c hc => h.rd c (List.mem_append_right _ hc)⟩
end
end VQ

/-! ## VCz -/
/-! rounds: a thing put in, two values changed about, other names, how many -/
namespace VQ
variable {α : Type} [DecidableEq α]
section
variable {K : List α} {φ : α → α} {C : List (List α)}
/-! ### how many -/
end
end VQ

/-! ## VGoN -/
/-! evaluation of the newest statements -/
namespace VV
open PySem PySem.Spec PyProof.Rows L2
section
variable {i j : Nat} {ρ ρ' : List D} {d e : D} {a : List D → Option (List D)} {b : Sv} {t : Tv} {Q : Out → Prop}
end
/-- a dict of nested keys, by the keys' names -/
structure Nks {α : Type} (x : α → D) (key : α → NestedKey) : Prop where
  nk : ∀ a, (x a).nk = some (key a)
  nkT : ∀ a, (x a).nkT = some (key a)
  fl : ∀ a, (x a).isFlat = true
  inj : ∀ a b, key a = key b → a = b
section
variable {α : Type} [DecidableEq α] {x : α → D} {key : α → NestedKey} (h : Nks x key) {N : List α} {f : α → D}
include h
end
end VV
namespace VV
open PySem PySem.Spec PyProof.Rows L2
end VV

/-! ## VQa -/
namespace VQ
open PySem PySem.Spec PyProof.Rows L2 VV VP
/-- where each side of a crossing's stretches leads -/
def onL (x : Cr) : List ((Int × Bool) × (Int × Bool)) := if x.s = 1 then [((x.a, true), (x.c, false)), ((x.d, false), (x.a, false)), ((x.b, false), (x.d, true)), ((x.c, true), (x.b, true))]
  else [((x.a, true), (x.d, true)), ((x.c, true), (x.a, false)), ((x.b, false), (x.c, false)), ((x.d, false), (x.b, true))]
def onA (cs : List Cr) : List ((Int × Bool) × (Int × Bool)) := cs.flatMap onL
end VQ

/-! ## VNet -/
/-! drawings by their rings, ins and outs alone; a name cut in three -/
namespace VP
open PySem PySem.Spec PyProof.Rows L2 VV VP
structure Net (R I O : List Int) : Prop where
  nd : (R ++ I).Nodup
  op : O.Perm I
end VP

/-! ## VQb -/
namespace VQ
open PySem PySem.Spec PyProof.Rows L2 VV VP
abbrev NetC (rs : List Int) (cs : List Cr) : Prop := Net rs (insC cs) (outsC cs)
section
variable {rs : List Int} {cs : List Cr} (g : NetC rs cs)
include g
end
end VQ

/-! ## VQc -/
namespace VQ
open PySem PySem.Spec PyProof.Rows L2 VV VP
end VQ

/-! ## VQd -/
namespace VQ
open PySem PySem.Spec PyProof.Rows L2 VV VP
def sideD (b : Bool) : D := .str (PySem.Str.ofString (if b = true then "left" else "right"))
end VQ

/-! ## VQe -/
namespace VQ
open PySem PySem.Spec PyProof.Rows L2 VV VP
end VQ

/-! ## VQf -/
namespace VQ
open PySem PySem.Spec PyProof.Rows L2 VV VP
theorem side_flat {b : Bool} : (sideD b).isFlat = true := rfl
end VQ

/-! ## VQg -/
namespace VQ
open PySem PySem.Spec PyProof.Rows L2 VV VP
end VQ

/-! ## VQn -/
namespace VQ
open PySem PySem.Spec PyProof.Rows L2 VV VP
/-- the names given so far -/
structure Nmf (K : List Int) (far : Int) (φ : Int → Int) : Prop where
  nd : K.Nodup
  vl : ∀ (j : Nat) (n : Int), K[j]? = some n → ∃ r : Int, φ n = far * r + j
  bd : ∀ n ∈ K, Bn 192 (φ n)
end VQ

/-! ## VQo -/
namespace VQ
open PySem PySem.Spec PyProof.Rows L2 VV VP
end VQ

/-! ## VQr -/
/-! what refuses -/
namespace VQ
open PySem PySem.Spec PyProof.Rows L2 VV VP
section
variable {ρ : List D} {b : Sv} {r : List D → Option Res} {c : Str} {d : D} {Q : Out → Prop}
end
/-! ### names -/
/-! ### places -/
/-! ### sides -/
/-! ### the kinds of an exception -/
end VQ

/-! ## VQt -/
/-! odd things of a law -/
namespace VQ
open PySem PySem.Spec PyProof.Rows L2 VV VP
end VQ

/-! ## VSh -/
/-! the class Sheet: what it holds, a step, a face -/
namespace VQ
open PySem PySem.Spec PyProof.Rows L2 VV VP
/-! ### evaluation of the statements of classes -/
section
variable {ρ : List D} {b : Sv} {Q : Out → Prop} {c f : Str} {ns : List Str} {ds : List D} {d e k : D} {i j : Nat} {s t : Ev}
end
/-! ### what a Sheet holds -/
section
variable {cs : List Cr}
end
end VQ

/-! ## VSi -/
/-! a face: the law's and the program's -/
namespace VQ
open PySem PySem.Spec PyProof.Rows L2 VV VP
section
variable {rs : List Int} {cs : List Cr} (g : NetC rs cs)
include g
end
end VQ

/-! ## VPa -/
/-! lists of steps, their rounds; an edge cut in two -/
namespace VQ
open PySem PySem.Spec PyProof.Rows L2 VV VP
section
variable {α : Type} [DecidableEq α]
structure FlS (L : List (α × α)) (φ : α → α) (C : List (List α)) : Prop where
  val : ∀ p ∈ L, φ p.1 = p.2
  cyc : Cyc (L.map (·.1)) φ C
end
end VQ

/-! ## VPb -/
/-! pieces of drawings: faces by steps, what hangs together; a vertex put on an edge -/
namespace VQ
open PySem PySem.Spec PyProof.Rows L2 VV VP
/-! ### what hangs together -/
def ConnG (gs : List (List Int)) : Prop := ∀ S : Int → Prop, (∃ g ∈ gs, ∃ n ∈ g, S n) → (∀ g ∈ gs, ∀ n ∈ g, ∀ m ∈ g, S n → S m) → ∀ g ∈ gs, ∀ n ∈ g, S n
def nm4 (x : Cr) : List Int := [x.a, x.b, x.c, x.d]
/-- larger groups, each with a name of the old ones -/
theorem ConnG.up {gs hs : List (List Int)} (c : ConnG gs) (h1 : ∀ g ∈ gs, ∃ h ∈ hs, ∀ n ∈ g, n ∈ h) (h2 : ∀ h ∈ hs, ∃ g ∈ gs, ∃ n ∈ g, n ∈ h) : ConnG hs := by
  intro S hne hcl
  have cl : ∀ g ∈ gs, ∀ n ∈ g, ∀ m ∈ g, S n → S m := fun g hg n hn m hm s => by
    obtain ⟨h, hh, hsub⟩ := h1 g hg
    exact hcl h hh n (hsub n hn) m (hsub m hm) s
  have ne : ∃ g ∈ gs, ∃ n ∈ g, S n := by
    obtain ⟨h, hh, n, hn, s⟩ := hne
    obtain ⟨g, hg, m, hm, hmh⟩ := h2 h hh
    exact ⟨g, hg, m, hm, hcl h hh n hn m hmh s⟩
  intro h hh n hn
  obtain ⟨g, hg, m, hm, hmh⟩ := h2 h hh
  exact hcl h hh m hmh n hn (c S ne cl g hg m hm)
/-! ### pieces -/
structure Pc (P : List Cr) (φ : Int × Bool → Int × Bool) (C : List (List (Int × Bool))) : Prop where
  net : NetC [] P
  fl : FlS (onA P) φ C
  len : C.length = P.length + 2
  conn : ConnG (P.map nm4)
/-- a vertex with the in i and the out o -/
def lk (o i : Int) : List ((Int × Bool) × (Int × Bool)) := [((o, false), (i, false)), ((i, true), (o, true))]
/-- a piece with such a vertex -/
structure Sb (Q : List Cr) (o i : Int) (φ : Int × Bool → Int × Bool) (C : List (List (Int × Bool))) : Prop where
  net : Net [] (insC Q ++ [i]) (outsC Q ++ [o])
  fl : FlS (onA Q ++ lk o i) φ C
  len : C.length = Q.length + 2
  conn : ConnG ([o, i] :: Q.map nm4)
section
variable {P : List Cr} {φ : Int × Bool → Int × Bool} {C : List (List (Int × Bool))}
end
end VQ

/-! ## VPc -/
/-! two vertices, and a crossing in their place -/
namespace VQ
open PySem PySem.Spec PyProof.Rows L2 VV VP
abbrev Side := Int × Bool
structure Sb2 (Q : List Cr) (o i p j : Int) (a b : Side) (φ : Side → Side) (C : List (List Side)) : Prop where
  net : Net [] (insC Q ++ [i, j]) (outsC Q ++ [o, p])
  fl : FlS (onA Q ++ (lk o i ++ lk p j)) φ C
  len : (C.length = Q.length + 2 ∧ Same C a b) ∨ (C.length = Q.length + 4 ∧ ¬ Same C a b)
  conn : ConnG ([o, i, p, j] :: Q.map nm4)
section
variable {Q : List Cr} {o i : Int} {φ : Side → Side} {C : List (List Side)}
end
/-! ### a letter: a crossing in the place of the two vertices -/
end VQ

/-! ## VPd -/
/-! closings are flat: blocks of columns -/
namespace VQ
open PySem PySem.Spec PyProof.Rows L2 VV VP
section
variable {α : Type} [DecidableEq α]
end
def gam (col : Int → Int) (z : Side) : Int := col z.1 - (if z.2 = true then 1 else 0)
/-- a block of columns from l on -/
def Blk (n : Nat) (here : List Int) (col : Int → Int) (l w : Nat) (P : List Cr) : Prop :=
  (P = [] ∧ w = 1 ∧ here[l]? = some (l : Int)) ∨ (1 ≤ w ∧ ∃ φ C, Pc P φ C ∧ (∀ k : Nat, l ≤ k → k < l + w → (k : Int) ∈ insC P) ∧ (∀ k : Nat, l ≤ k → k + 1 < l + w → Same C ((k : Int), false) ((k : Int) + 1, true)) ∧ (∀ z ∈ insC P, z < n → (l : Int) ≤ z ∧ z < l + w) ∧ ∀ r ∈ onA P, gam col r.1 = gam col r.2)
theorem Blk.pos {n : Nat} {here : List Int} {col : Int → Int} {l w : Nat} {P : List Cr} (h : Blk n here col l w P) : 1 ≤ w := by
  rcases h with ⟨_, h, _⟩ | ⟨h, _⟩ <;> omega
end VQ

/-! ## VPe -/
/-! closings are flat: a letter more -/
namespace VQ
open PySem PySem.Spec PyProof.Rows L2 VV VP
section
variable {n a : Nat} {p q : Int} {col : Int → Int} {here here' : List Int} {x : Cr}
end
end VQ

/-! ## VPf -/
/-! closings are flat -/
namespace VQ
open PySem PySem.Spec PyProof.Rows L2 VV VP
end VQ

/-! ## VPg -/
/-! curls and pokes are flat: rounds -/
namespace VQ
open PySem PySem.Spec PyProof.Rows L2 VV VP
section
variable {α : Type} [DecidableEq α]
end
end VQ

/-! ## VPh -/
/-! curls and pokes are flat: pieces -/
namespace VQ
open PySem PySem.Spec PyProof.Rows L2 VV VP
section
variable {α : Type} [DecidableEq α] {K : List α} {φ : α → α} {C : List (List α)}
end
section
variable {Q : List Cr} {o i : Int} {φ : Side → Side} {C : List (List Side)}
end
end VQ

/-! ## VPi -/
/-! pokes are flat: pieces -/
namespace VQ
open PySem PySem.Spec PyProof.Rows L2 VV VP
end VQ

/-! ## VPj -/
/-! flat drawings: a curl, a poke, other names, another order -/
namespace VQ
open PySem PySem.Spec PyProof.Rows L2 VV VP
section
variable {rs : List Int} {cs P R : List Cr}
/-! ### pokes -/
end
end VQ

/-! ## VPk -/
/-! pieces of a drawing: what hangs together; flat is told piece by piece -/
namespace VQ
open PySem PySem.Spec PyProof.Rows L2 VV VP
/-! ### pieces found one crossing after the other -/
def Share (x : Cr) (P : List Cr) : Prop := ∃ y ∈ P, ∃ z ∈ nm4 y, z ∈ nm4 x
instance {x : Cr} {P : List Cr} : Decidable (Share x P) := inferInstanceAs (Decidable (∃ y ∈ P, ∃ z ∈ nm4 y, z ∈ nm4 x))
def Away (P Q : List Cr) : Prop := ∀ y ∈ P, ∀ z ∈ nm4 y, ∀ w ∈ Q, z ∉ nm4 w
structure PI (cs : List Cr) (Ps : List (List Cr)) : Prop where
  pm : Ps.flatten.Perm cs
  cn : ∀ P ∈ Ps, P ≠ [] ∧ ConnG (P.map nm4)
  aw : Ps.Pairwise Away
section
variable {rs : List Int} {cs : List Cr} {Ps : List (List Cr)} (g : NetC rs cs) (h : PI cs Ps)
include g h
end
end VQ

/-! ## VPl -/
/-! the walk through is_drawing: faces, pieces -/
namespace VQ
open PySem PySem.Spec PyProof.Rows L2 VV VP
/-! ### loops that may end with an answer; walks over an attribute's keys -/
section
variable {t : Tv} {b : Sv} {ρ : List D} {Q : Out → Prop}
theorem forL_e {α : Type} (x : α → D) : ∀ (l : List α) (R : Nat → List D → Prop) (ρ : List D), R 0 ρ →
    (∀ i a ρ, l[i]? = some a → R i ρ → ∃ ρ1, t (x a) ρ = some ρ1 ∧ Go b ρ1 fun o => (∃ ρ2, (o = .nx ρ2 ∨ o = .ct ρ2) ∧ R (i + 1) ρ2) ∨ ∃ d, o = .rt d ∧ Q (.rt d)) → (∀ ρ', R l.length ρ' → Q (.nx ρ')) → ∃ o, forL t b (l.map x) ρ = some o ∧ Q o
  | [], R, ρ, h, _, q => ⟨.nx ρ, rfl, q ρ h⟩
  | a :: r, R, ρ, h, k, q => by
    obtain ⟨ρ1, h1, o, h2, h3⟩ := k 0 a ρ rfl h
    have e : forL t b ((a :: r).map x) ρ = match b ρ1 with
      | some (.nx ρ2) => forL t b (r.map x) ρ2
      | some (.ct ρ2) => forL t b (r.map x) ρ2
      | o => o := by
      show (match t (x a) ρ with
        | none => none
        | some ρ1 => match b ρ1 with
          | some (.nx ρ2) => forL t b (r.map x) ρ2
          | some (.ct ρ2) => forL t b (r.map x) ρ2
          | o => o) = _
      rw [h1]
    rw [e, h2]
    rcases h3 with ⟨ρ2, h3, h4⟩ | ⟨d, rfl, h4⟩
    · have ih := forL_e x r (fun i => R (i + 1)) ρ2 h4 (fun i b ρ hb hR => k (i + 1) b ρ hb hR) q
      rcases h3 with rfl | rfl <;> exact ih
    · exact ⟨_, rfl, h4⟩
theorem go_forE {α : Type} {it : List D → Option (List D)} (x : α → D) (l : List α) (R : Nat → List D → Prop) (hit : it ρ = some (l.map x)) (h0 : R 0 ρ)
    (k : ∀ i a ρ, l[i]? = some a → R i ρ → ∃ ρ1, t (x a) ρ = some ρ1 ∧ Go b ρ1 fun o => (∃ ρ2, (o = .nx ρ2 ∨ o = .ct ρ2) ∧ R (i + 1) ρ2) ∨ ∃ d, o = .rt d ∧ Q (.rt d)) (q : ∀ ρ', R l.length ρ' → Q (.nx ρ')) : Go (sFor it t b) ρ Q := by
  obtain ⟨o, h1, h2⟩ := forL_e x l R ρ h0 k q
  refine ⟨o, ?_, h2⟩
  rw [sFor_s, hit]
  exact h1
end
section
variable {α : Type} [DecidableEq α] {x : α → D} {key : α → NestedKey}
end
/-! ### faces -/
section
variable {rs : List Int} {cs : List Cr} (g : NetC rs cs)
include g
end
end VQ

/-! ## VPm -/
/-! the walk through is_drawing: pieces, flat -/
namespace VQ
open PySem PySem.Spec PyProof.Rows L2 VV VP
/-! ### truths in lists -/
theorem boolsOf_map {α : Type} (p : α → Bool) : ∀ l : List α, boolsOf (l.map fun z => .bl (p z)) = some (l.map p)
  | [] => rfl
  | a :: r => by
    show (boolsOf (r.map fun z => .bl (p z))).map _ = _
    rw [boolsOf_map p r]
    rfl
/-! ### pieces by numbers -/
section
variable {cs : List Cr}
end
end VQ

/-! ## K42b -/
/-! k42: a form's methods: steps, the least number, is_clear, odd_row -/
namespace K42
open PySem PySem.Spec PyProof.Rows L2 VV VP
/-! ### a form -/
structure Vs where
  L : Mx
  B : Mx
  T : Mx
  C : Mx
abbrev FN : List Str := ["high", "wide", "rows", "left", "left_back", "right", "right_back"]
def frm (n : Nat) (R : Mx) (V : Vs) : D := .obj "Form" FN [.int n, .int n, tb n R, tb n V.L, tb n V.B, tb n V.T, tb n V.C]
def Vs.ok (V : Vs) (n e : Nat) : Prop := ∀ i j, i < n → j < n → Bn e (V.L i j) ∧ Bn e (V.B i j) ∧ Bn e (V.T i j) ∧ Bn e (V.C i j)
theorem Vs.ok.mono {V : Vs} {n e f : Nat} (h : V.ok n e) (hf : e ≤ f) : V.ok n f := fun i j hi hj => by
  obtain ⟨a, b, c, d⟩ := h i j hi hj
  exact ⟨a.mono hf, b.mono hf, c.mono hf, d.mono hf⟩
section
variable {n : Nat} {R : Mx} {V : Vs} {ρ : List D} {s : Ev}
theorem fld_of {c f : Str} {ns : List Str} {ds : List D} {d : D} (h : s ρ = some (.obj c ns ds)) (hf : fldD f ns ds = some d) : eFld c f s ρ = some d := by
  unfold eFld
  rw [h]
  dsimp only
  rw [if_pos rfl, hf]
theorem fd_high : eFld "Form" "high" (eVar 0) (frm n R V :: ρ) = some (.int n) := fld_of (ns := FN) rfl (by rfl)
theorem fd_wide : eFld "Form" "wide" (eVar 0) (frm n R V :: ρ) = some (.int n) := fld_of (ns := FN) rfl (by rfl)
theorem fd_rows : eFld "Form" "rows" (eVar 0) (frm n R V :: ρ) = some (tb n R) := fld_of (ns := FN) rfl (by rfl)
theorem oattr_ok {cl at' : Str} {f : List D → Option D} {a : List D → Option (List D)} {ns : List Str} {ds xs : List D} {l : List D} {z : D} (h1 : a (.obj cl ns ds :: ρ) = some xs) (h2 : fldD at' ns ds = some (.lst l)) (h3 : f (.lst l :: xs) = some z) : sOAttr 0 cl at' f a (.obj cl ns ds :: ρ) = some (.nx (.obj cl ns (setF at' z ns ds) :: ρ)) := by
  unfold sOAttr
  dsimp only [List.getElem?_cons_zero]
  rw [if_pos rfl, h1, Option.bind_some, h2]
  dsimp only
  rw [h3]
  rfl
theorem ometh_ok {m : Str} {f : List D → Option D} {a : List D → Option (List D)} {xs : List D} {z : D} (hm : m ∉ FN) (h1 : a (frm n R V :: ρ) = some xs) (h3 : f (frm n R V :: xs) = some z) : sOMeth 0 "Form" m f a (frm n R V :: ρ) = some (.nx (z :: ρ)) := by
  have e : sOMeth 0 "Form" m f a (frm n R V :: ρ) = if ("Form" : Str) = "Form" ∧ m ∉ FN then (a (frm n R V :: ρ)).bind fun xs => (f (frm n R V :: xs)).map fun z => .nx ((frm n R V :: ρ).set 0 z) else none := rfl
  rw [e, if_pos ⟨rfl, hm⟩, h1, Option.bind_some, h3]
  rfl
theorem emeth_frm {m : Str} {f : List D → Option Res} {as : List D → Option (List D)} {xs : List D} {q : D} (hm : m ∉ FN) (h3 : as (frm n R V :: ρ) = some xs) (h4 : f (frm n R V :: xs) = some (.ret q)) : eMeth "Form" m f (eVar 0) as (frm n R V :: ρ) = some q := by
  have e : eMeth "Form" m f (eVar 0) as (frm n R V :: ρ) = if ("Form" : Str) = "Form" ∧ m ∉ FN then (as (frm n R V :: ρ)).bind fun xs => (match f (frm n R V :: xs) with | some (.ret d) => some d | _ => none) else none := rfl
  rw [e, if_pos ⟨rfl, hm⟩, h3, Option.bind_some, h4]
end
/-! ### steps -/
theorem bn_addRow {n e i j : Nat} {M : Mx} {t : Int} (hi : i < n) (hj : j < n) (ht : Bn 1000 t) (h : ∀ a b, a < n → b < n → Bn e (M a b)) : ∀ a b, a < n → b < n → Bn (e + 1024) (addRow M i j t a b) := by
  intro a b ha hb
  unfold addRow
  split
  · refine Bn.mono (Bn.add ((h i b hi hb).mono (by omega : e ≤ 1000 + e)) (Bn.mul ht (h j b hj hb))) (by omega)
  · exact (h a b ha hb).mono (by omega)
theorem bn_addCol {n e i j : Nat} {M : Mx} {t : Int} (hi : i < n) (hj : j < n) (ht : Bn 1000 t) (h : ∀ a b, a < n → b < n → Bn e (M a b)) : ∀ a b, a < n → b < n → Bn (e + 1024) (addCol M i j t a b) := by
  intro a b ha hb
  unfold addCol
  split
  · refine Bn.mono (Bn.add ((h a i ha hi).mono (by omega : e ≤ 1000 + e)) (Bn.mul ht (h a j ha hj))) (by omega)
  · exact (h a b ha hb).mono (by omega)
theorem sw_lt {n i j r : Nat} (hi : i < n) (hj : j < n) (hr : r < n) : sw i j r < n := by
  unfold sw
  split
  · exact hi
  · split
    · exact hj
    · exact hr
section
variable {n i j e : Nat} {R : Mx} {V : Vs} {t : Int}
theorem add_down_ok (hi : i < n) (hj : j < n) (ht : Bn 1000 t) (hR : ∀ c, c < n → Bn 2000 (R j c)) (hV : V.ok n e) (he : e + 1024 ≤ 134217728) :
    ∃ V', f_Form_add_down [frm n R V, .int i, .int j, .int t] = some (frm n (addRow R i j t) V') ∧ V'.ok n (e + 1024) := by
  refine ⟨⟨addRow V.L i j t, addCol V.B j i (-t), V.T, V.C⟩, ?_, fun a b ha hb => ?_⟩
  · unfold f_Form_add_down
    refine semO_ok (by simp) ?_
    show GoO m_Form_add_down [frm n R V, .int i, .int j, .int t] _
    unfold m_Form_add_down
    refine GoO.seq1 (ρ' := [frm n (addRow R i j t) V, .int i, .int j, .int t]) (oattr_ok (xs := [.int i, .int j, .int t]) rfl (by rfl) (add_row_ok hi hj fun c hc => Bn.cmul ht (hR c hc) (by omega))) ?_
    unfold m_Form_add_down_1
    refine GoO.seq1 (ρ' := [frm n (addRow R i j t) { V with L := addRow V.L i j t }, .int i, .int j, .int t]) (oattr_ok (xs := [.int i, .int j, .int t]) rfl (by rfl) (add_row_ok hi hj fun c hc => Bn.cmul ht (hV j c hj hc).1 (by omega))) ?_
    unfold m_Form_add_down_2
    exact GoO.seq1 (ρ' := [frm n (addRow R i j t) ⟨addRow V.L i j t, addCol V.B j i (-t), V.T, V.C⟩, .int i, .int j, .int t]) (oattr_ok (xs := [.int j, .int i, .int (-t)]) rfl (by rfl) (add_column_ok hj hi fun r hr => Bn.cmul ht.neg (hV r i hr hi).2.1 (by omega))) (GoO.nil ⟨_, .inl rfl, rfl⟩)
  · exact ⟨bn_addRow hi hj ht (fun a b ha hb => (hV a b ha hb).1) a b ha hb, bn_addCol hj hi ht.neg (fun a b ha hb => (hV a b ha hb).2.1) a b ha hb, (hV a b ha hb).2.2.1.mono (by omega), (hV a b ha hb).2.2.2.mono (by omega)⟩
theorem add_over_ok (hi : i < n) (hj : j < n) (ht : Bn 1000 t) (hR : ∀ r, r < n → Bn 2000 (R r j)) (hV : V.ok n e) (he : e + 1024 ≤ 134217728) :
    ∃ V', f_Form_add_over [frm n R V, .int i, .int j, .int t] = some (frm n (addCol R i j t) V') ∧ V'.ok n (e + 1024) := by
  refine ⟨⟨V.L, V.B, addCol V.T i j t, addRow V.C j i (-t)⟩, ?_, fun a b ha hb => ?_⟩
  · unfold f_Form_add_over
    refine semO_ok (by simp) ?_
    show GoO m_Form_add_over [frm n R V, .int i, .int j, .int t] _
    unfold m_Form_add_over
    refine GoO.seq1 (ρ' := [frm n (addCol R i j t) V, .int i, .int j, .int t]) (oattr_ok (xs := [.int i, .int j, .int t]) rfl (by rfl) (add_column_ok hi hj fun c hc => Bn.cmul ht (hR c hc) (by omega))) ?_
    unfold m_Form_add_over_1
    refine GoO.seq1 (ρ' := [frm n (addCol R i j t) { V with T := addCol V.T i j t }, .int i, .int j, .int t]) (oattr_ok (xs := [.int i, .int j, .int t]) rfl (by rfl) (add_column_ok hi hj fun c hc => Bn.cmul ht (hV c j hc hj).2.2.1 (by omega))) ?_
    unfold m_Form_add_over_2
    exact GoO.seq1 (ρ' := [frm n (addCol R i j t) ⟨V.L, V.B, addCol V.T i j t, addRow V.C j i (-t)⟩, .int i, .int j, .int t]) (oattr_ok (xs := [.int j, .int i, .int (-t)]) rfl (by rfl) (add_row_ok hj hi fun r hr => Bn.cmul ht.neg (hV i r hi hr).2.2.2 (by omega))) (GoO.nil ⟨_, .inl rfl, rfl⟩)
  · exact ⟨(hV a b ha hb).1.mono (by omega), (hV a b ha hb).2.1.mono (by omega), bn_addCol hi hj ht (fun a b ha hb => (hV a b ha hb).2.2.1) a b ha hb, bn_addRow hj hi ht.neg (fun a b ha hb => (hV a b ha hb).2.2.2) a b ha hb⟩
theorem turn_down_ok (hi : i < n) (hR : ∀ c, c < n → Bn 2000 (R i c)) (hV : V.ok n e) (he : e + 1024 ≤ 134217728) :
    ∃ V', f_Form_turn_down [frm n R V, .int i] = some (frm n (addRow R i i (-2)) V') ∧ V'.ok n (e + 1024) := by
  have ht : Bn 1000 (-2) := Bn.mono (n := 2) (by unfold Bn; decide) (by decide)
  refine ⟨⟨addRow V.L i i (-2), addCol V.B i i (-2), V.T, V.C⟩, ?_, fun a b ha hb => ?_⟩
  · unfold f_Form_turn_down
    refine semO_ok (by simp) ?_
    show GoO m_Form_turn_down [frm n R V, .int i] _
    unfold m_Form_turn_down
    refine GoO.seq1 (ρ' := [frm n (addRow R i i (-2)) V, .int i]) (oattr_ok (xs := [.int i, .int i, .int (-2)]) rfl (by rfl) (add_row_ok hi hi fun c hc => Bn.cmul ht (hR c hc) (by omega))) ?_
    unfold m_Form_turn_down_1
    refine GoO.seq1 (ρ' := [frm n (addRow R i i (-2)) { V with L := addRow V.L i i (-2) }, .int i]) (oattr_ok (xs := [.int i, .int i, .int (-2)]) rfl (by rfl) (add_row_ok hi hi fun c hc => Bn.cmul ht (hV i c hi hc).1 (by omega))) ?_
    unfold m_Form_turn_down_2
    exact GoO.seq1 (ρ' := [frm n (addRow R i i (-2)) ⟨addRow V.L i i (-2), addCol V.B i i (-2), V.T, V.C⟩, .int i]) (oattr_ok (xs := [.int i, .int i, .int (-2)]) rfl (by rfl) (add_column_ok hi hi fun r hr => Bn.cmul ht (hV r i hr hi).2.1 (by omega))) (GoO.nil ⟨_, .inl rfl, rfl⟩)
  · exact ⟨bn_addRow hi hi ht (fun a b ha hb => (hV a b ha hb).1) a b ha hb, bn_addCol hi hi ht (fun a b ha hb => (hV a b ha hb).2.1) a b ha hb, (hV a b ha hb).2.2.1.mono (by omega), (hV a b ha hb).2.2.2.mono (by omega)⟩
theorem swap_down_ok (hi : i < n) (hj : j < n) (hV : V.ok n e) :
    ∃ V', f_Form_swap_down [frm n R V, .int i, .int j] = some (frm n (swpRow R i j) V') ∧ V'.ok n e := by
  refine ⟨⟨swpRow V.L i j, swpCol V.B i j, V.T, V.C⟩, ?_, fun a b ha hb => ?_⟩
  · unfold f_Form_swap_down
    refine semO_ok (by simp) ?_
    show GoO m_Form_swap_down [frm n R V, .int i, .int j] _
    unfold m_Form_swap_down
    refine GoO.seq1 (ρ' := [frm n (swpRow R i j) V, .int i, .int j]) (oattr_ok (xs := [.int i, .int j]) rfl (by rfl) (swap_rows_ok hi hj)) ?_
    unfold m_Form_swap_down_1
    refine GoO.seq1 (ρ' := [frm n (swpRow R i j) { V with L := swpRow V.L i j }, .int i, .int j]) (oattr_ok (xs := [.int i, .int j]) rfl (by rfl) (swap_rows_ok hi hj)) ?_
    unfold m_Form_swap_down_2
    exact GoO.seq1 (ρ' := [frm n (swpRow R i j) ⟨swpRow V.L i j, swpCol V.B i j, V.T, V.C⟩, .int i, .int j]) (oattr_ok (xs := [.int i, .int j]) rfl (by rfl) (swap_columns_ok hi hj)) (GoO.nil ⟨_, .inl rfl, rfl⟩)
  · exact ⟨(hV _ b (sw_lt hi hj ha) hb).1, (hV a _ ha (sw_lt hi hj hb)).2.1, (hV a b ha hb).2.2.1, (hV a b ha hb).2.2.2⟩
theorem swap_over_ok (hi : i < n) (hj : j < n) (hV : V.ok n e) :
    ∃ V', f_Form_swap_over [frm n R V, .int i, .int j] = some (frm n (swpCol R i j) V') ∧ V'.ok n e := by
  refine ⟨⟨V.L, V.B, swpCol V.T i j, swpRow V.C i j⟩, ?_, fun a b ha hb => ?_⟩
  · unfold f_Form_swap_over
    refine semO_ok (by simp) ?_
    show GoO m_Form_swap_over [frm n R V, .int i, .int j] _
    unfold m_Form_swap_over
    refine GoO.seq1 (ρ' := [frm n (swpCol R i j) V, .int i, .int j]) (oattr_ok (xs := [.int i, .int j]) rfl (by rfl) (swap_columns_ok hi hj)) ?_
    unfold m_Form_swap_over_1
    refine GoO.seq1 (ρ' := [frm n (swpCol R i j) { V with T := swpCol V.T i j }, .int i, .int j]) (oattr_ok (xs := [.int i, .int j]) rfl (by rfl) (swap_columns_ok hi hj)) ?_
    unfold m_Form_swap_over_2
    exact GoO.seq1 (ρ' := [frm n (swpCol R i j) ⟨V.L, V.B, swpCol V.T i j, swpRow V.C i j⟩, .int i, .int j]) (oattr_ok (xs := [.int i, .int j]) rfl (by rfl) (swap_rows_ok hi hj)) (GoO.nil ⟨_, .inl rfl, rfl⟩)
  · exact ⟨(hV a b ha hb).1, (hV a b ha hb).2.1, (hV a _ ha (sw_lt hi hj hb)).2.2.1, (hV _ b (sw_lt hi hj ha) hb).2.2.2⟩
end
end K42

/-! ## K42c -/
/-! k42: the least number; is_clear; odd_row -/
namespace K42
open PySem PySem.Spec PyProof.Rows L2 VV VP
section
variable {n k i j : Nat} {R : Mx} {V : Vs} {ρ : List D} {d x : D}
theorem rng_kn {a : List D → Option (List D)} (h : a ρ = some [.int k, .int n]) (hk : k ≤ n) (hn : n ≤ 1000) : iRng a ρ = some ((List.range (n - k)).map fun a : Nat => D.int ((k + a : Nat) : Int)) := by
  rw [iRng2_s h (by omega) (by omega) (by omega) (by omega) (by omega)]
  unfold rngD
  have e : ((n : Int) - (k : Int)).toNat = n - k := by omega
  rw [e]
  congr 1
theorem abs_nat {z : Int} : dAbs [.int z] = some (.int (z.natAbs : Nat)) := by
  show some (D.int _) = _
  congr 2
  split <;> omega
def Lst (R : Mx) (S : Nat → Nat → Prop) (d : D) : Prop := (d = .non ∧ ∀ r s, S r s → R r s = 0) ∨ ∃ i j : Nat, d = .tup [.int i, .int j] ∧ S i j ∧ R i j ≠ 0 ∧ (∀ r s, S r s → R r s ≠ 0 → (R i j).natAbs ≤ (R r s).natAbs) ∧ (∀ r s, S r s → (r < i ∨ r = i ∧ s < j) → R r s ≠ 0 → (R i j).natAbs < (R r s).natAbs)
theorem Lst.congr {S S' : Nat → Nat → Prop} (h : Lst R S d) (e : ∀ r s, S r s ↔ S' r s) : Lst R S' d := by
  have : S = S' := by funext r s; exact propext (e r s)
  rw [← this]; exact h
theorem Lst.zero {S : Nat → Nat → Prop} (h : Lst R S d) (hz : R i j = 0) : Lst R (fun r s => S r s ∨ r = i ∧ s = j) d := by
  rcases h with ⟨rfl, h⟩ | ⟨a, b, rfl, h1, h2, h3, h4⟩
  · refine .inl ⟨rfl, fun r s hs => ?_⟩
    rcases hs with hs | ⟨rfl, rfl⟩
    · exact h r s hs
    · exact hz
  · refine .inr ⟨a, b, rfl, .inl h1, h2, fun r s hs hn => ?_, fun r s hs hl hn => ?_⟩
    · rcases hs with hs | ⟨rfl, rfl⟩
      · exact h3 r s hs hn
      · exact absurd hz hn
    · rcases hs with hs | ⟨rfl, rfl⟩
      · exact h4 r s hs hl hn
      · exact absurd hz hn
theorem Lst.keep {S : Nat → Nat → Prop} {a b : Nat} (h : Lst R S (.tup [.int a, .int b])) (hz : (R a b).natAbs ≤ (R i j).natAbs) (ho : ∀ r s, S r s → r < i ∨ r = i ∧ s < j) : Lst R (fun r s => S r s ∨ r = i ∧ s = j) (.tup [.int a, .int b]) := by
  rcases h with ⟨h, _⟩ | ⟨a', b', h, h1, h2, h3, h4⟩
  · cases h
  · simp only [D.tup.injEq, List.cons.injEq, D.int.injEq, and_true] at h
    obtain ⟨e1, e2⟩ := h
    have e1 : a = a' := by omega
    have e2 : b = b' := by omega
    subst e1 e2
    refine .inr ⟨a, b, rfl, .inl h1, h2, fun r s hs hn => ?_, fun r s hs hl hn => ?_⟩
    · rcases hs with hs | ⟨rfl, rfl⟩
      · exact h3 r s hs hn
      · exact hz
    · rcases hs with hs | ⟨rfl, rfl⟩
      · exact h4 r s hs hl hn
      · have := ho a b h1
        omega
theorem Lst.new {S : Nat → Nat → Prop} (hz : R i j ≠ 0) (hn : ∀ r s, S r s → R r s ≠ 0 → (R i j).natAbs < (R r s).natAbs) : Lst R (fun r s => S r s ∨ r = i ∧ s = j) (.tup [.int i, .int j]) := by
  refine .inr ⟨i, j, rfl, .inr ⟨rfl, rfl⟩, hz, fun r s hs h => ?_, fun r s hs hl h => ?_⟩
  · rcases hs with hs | ⟨rfl, rfl⟩
    · exact Nat.le_of_lt (hn r s hs h)
    · exact Nat.le_refl _
  · rcases hs with hs | ⟨rfl, rfl⟩
    · exact hn r s hs h
    · omega
theorem least_body {S : Nat → Nat → Prop} (hi : i < n) (hj : j < n) (h : Lst R S d) (ho : ∀ r s, S r s → (r < i ∨ r = i ∧ s < j) ∧ r < n ∧ s < n) :
    Go m_Form_least_from_b2 [frm n R V, .int k, d, .int i, .int j, x] fun o => ∃ d' x', o = .nx [frm n R V, .int k, d', .int i, .int j, x'] ∧ Lst R (fun r s => S r s ∨ r = i ∧ s = j) d' := by
  unfold m_Form_least_from_b2
  refine Go.set (d := .int ((R i j).natAbs : Nat)) ?_ ?_
  · simp [fd_rows, idx_tb hi, idx_row hj, abs_nat, -dIdx_l, Option.filter_some]
  · show Go m_Form_least_from_b2_1 [frm n R V, .int k, d, .int i, .int j, .int ((R i j).natAbs : Nat)] _
    unfold m_Form_least_from_b2_1
    have stay : ∀ c : List D → Option Bool, c [frm n R V, .int k, d, .int i, .int j, .int ((R i j).natAbs : Nat)] = some false → Lst R (fun r s => S r s ∨ r = i ∧ s = j) d → Go (sIf c m_Form_least_from_c1 sNil) [frm n R V, .int k, d, .int i, .int j, .int ((R i j).natAbs : Nat)] fun o => ∃ d' x', o = .nx [frm n R V, .int k, d', .int i, .int j, x'] ∧ Lst R (fun r s => S r s ∨ r = i ∧ s = j) d' := fun c hc hl => by
      rw [go_f hc, go_nil]
      exact ⟨d, _, rfl, hl⟩
    have take : ∀ c : List D → Option Bool, c [frm n R V, .int k, d, .int i, .int j, .int ((R i j).natAbs : Nat)] = some true → Lst R (fun r s => S r s ∨ r = i ∧ s = j) (.tup [.int i, .int j]) → Go (sIf c m_Form_least_from_c1 sNil) [frm n R V, .int k, d, .int i, .int j, .int ((R i j).natAbs : Nat)] fun o => ∃ d' x', o = .nx [frm n R V, .int k, d', .int i, .int j, x'] ∧ Lst R (fun r s => S r s ∨ r = i ∧ s = j) d' := fun c hc hl => by
      rw [go_t hc]
      unfold m_Form_least_from_c1
      exact Go.set1 (d := .tup [.int i, .int j]) rfl ⟨_, _, rfl, hl⟩
    by_cases hz : R i j = 0
    · refine stay _ ?_ (h.zero hz)
      simp [hz]
    · have hpos : 0 < (R i j).natAbs := by omega
      rcases id h with ⟨rfl, h0⟩ | ⟨a, b, rfl, h1, h2, h3, h4⟩
      · refine take _ ?_ (Lst.new hz fun r s hs hn => absurd (h0 r s hs) hn)
        simp [hz, dIsN, D.isNon]
      · obtain ⟨_, ha, hb⟩ := ho a b h1
        have hl : dLt [.int ((R i j).natAbs : Nat), .int ((R a b).natAbs : Nat)] = some (.bl (decide ((R i j).natAbs < (R a b).natAbs))) := by
          show some (D.bl _) = _
          congr 2
          exact decide_eq_decide.mpr (by omega)
        by_cases hc : (R i j).natAbs < (R a b).natAbs
        · refine take _ ?_ (Lst.new hz fun r s hs hn => Nat.lt_of_lt_of_le hc (h3 r s hs hn))
          simp only [wAnd_s, wOr_s, tOf_s, eP_s, aCons_s, aNil_s, eVar_s, eC_s, List.getElem?_cons_zero, List.getElem?_cons_succ, ob_some, fd_rows, dIdx_t, atI_0, atI_1, idx_tb ha, idx_row hb, eChk_s, Option.filter_some, fl_int, if_true, abs_nat, hl, asB_s, hc, decide_true, dIsN, D.isNon, dB2_s]
          simp [hz]
        · refine stay _ ?_ (h.keep (by omega) fun r s hs => (ho r s hs).1)
          simp only [wAnd_s, wOr_s, tOf_s, eP_s, aCons_s, aNil_s, eVar_s, eC_s, List.getElem?_cons_zero, List.getElem?_cons_succ, ob_some, fd_rows, dIdx_t, atI_0, atI_1, idx_tb ha, idx_row hb, eChk_s, Option.filter_some, fl_int, if_true, abs_nat, hl, asB_s, hc, decide_false, dIsN, D.isNon, dB2_s]
          simp [hz]
/-- all places from (k, k) on -/
def Sq (n k : Nat) (r s : Nat) : Prop := k ≤ r ∧ r < n ∧ k ≤ s ∧ s < n
theorem least_ok (hk : k ≤ n) (hn : n ≤ 1000) : ∃ d, f_Form_least_from [frm n R V, .int k] = some (.ret d) ∧ Lst R (Sq n k) d := by
  unfold f_Form_least_from
  refine fn_ex (by simp) ?_
  show Go m_Form_least_from [frm n R V, .int k, .non, .non, .non, .non] _
  unfold m_Form_least_from
  refine Go.set (d := .non) rfl ?_
  show Go m_Form_least_from_1 [frm n R V, .int k, .non, .non, .non, .non] _
  unfold m_Form_least_from_1
  rw [go_seq]
  refine go_for (fun a : Nat => D.int ((k + a : Nat) : Int)) (List.range (n - k)) (fun a ρ => ∃ d x3 x4 x5, ρ = [frm n R V, .int k, d, x3, x4, x5] ∧ Lst R (fun r s => k ≤ r ∧ r < k + a ∧ k ≤ s ∧ s < n) d) (rng_kn (by simp [fd_high, Option.filter_some]) hk hn) ⟨.non, .non, .non, .non, rfl, .inl ⟨rfl, fun r s h => by omega⟩⟩ ?_ ?_
  · rintro a a' ρ ha ⟨d, x3, x4, x5, rfl, hd⟩
    obtain ⟨hal, ha'⟩ := List.getElem?_eq_some_iff.mp ha
    simp only [List.length_range, List.getElem_range] at hal ha'
    subst ha'
    refine ⟨_, gN_s, ?_⟩
    show Go m_Form_least_from_b1 [frm n R V, .int k, d, .int ((k + a : Nat) : Int), x4, x5] _
    unfold m_Form_least_from_b1
    refine go_for (fun b : Nat => D.int ((k + b : Nat) : Int)) (List.range (n - k)) (fun b ρ => ∃ d x4 x5, ρ = [frm n R V, .int k, d, .int ((k + a : Nat) : Int), x4, x5] ∧ Lst R (fun r s => k ≤ r ∧ k ≤ s ∧ s < n ∧ (r < k + a ∨ r = k + a ∧ s < k + b)) d) (rng_kn (by simp [fd_wide, Option.filter_some]) hk hn) ⟨d, x4, x5, rfl, hd.congr fun r s => by omega⟩ ?_ ?_
    · rintro b b' ρ hb ⟨d, x4, x5, rfl, hd⟩
      obtain ⟨hbl, hb'⟩ := List.getElem?_eq_some_iff.mp hb
      simp only [List.length_range, List.getElem_range] at hbl hb'
      subst hb'
      refine ⟨_, gN_s, ?_⟩
      refine (least_body (n := n) (k := k) (i := k + a) (j := k + b) (R := R) (V := V) (d := d) (x := x5) (by omega) (by omega) hd (fun r s h => by omega)).mono ?_
      rintro o ⟨d', x', rfl, h⟩
      exact ⟨_, .inl rfl, d', _, x', rfl, h.congr fun r s => by omega⟩
    · rintro ρ ⟨d, x4, x5, rfl, hd⟩
      simp only [List.length_range] at hd
      exact ⟨_, .inl rfl, d, _, x4, x5, rfl, hd.congr fun r s => by omega⟩
  · rintro ρ ⟨d, x3, x4, x5, rfl, hd⟩
    simp only [List.length_range] at hd
    rw [cont_nx]
    exact Go.ret (d := d) rfl ⟨d, rfl, hd.congr fun r s => by unfold Sq; omega⟩
/-! ### is_clear -/
theorem row_cut {f : Nat → Int} (hk : k < n) : cutG ((List.range n).map fun c => D.int (f c)) (some ((k + 1 : Nat) : Int)) none = (List.range (n - (k + 1))).map fun a => D.int (f (k + 1 + a)) := by
  have e : cutG ((List.range n).map fun c => D.int (f c)) (some ((k + 1 : Nat) : Int)) none = ((List.range n).map fun c => D.int (f c)).drop (k + 1) := by
    unfold cutG
    have e1 : HT.sIx ((List.range n).map fun c => D.int (f c)).length 0 (some ((k + 1 : Nat) : Int)) = k + 1 := by
      simp only [HT.sIx, List.length_map, List.length_range]
      rw [if_neg (by omega)]
      omega
    have e2 : HT.sIx ((List.range n).map fun c => D.int (f c)).length ((List.range n).map fun c => D.int (f c)).length none = n := by simp [HT.sIx]
    rw [e1, e2]
    apply List.take_of_length_le
    simp
  rw [e]
  apply List.ext_getElem
  · simp
  · intro t h1 h2
    simp
theorem is_clear_ok (hk : k < n) (hn : n ≤ 1000) : ∃ b, f_Form_is_clear [frm n R V, .int k] = some (.ret (.bl b)) ∧ (b = true ↔ ∀ r, k < r → r < n → R r k = 0 ∧ R k r = 0) := by
  obtain ⟨l, hl⟩ : ∃ l : List Int, l = ((List.range (n - (k + 1))).map fun a => R (k + 1 + a) k) ++ (List.range (n - (k + 1))).map fun a => R k (k + 1 + a) := ⟨_, rfl⟩
  refine ⟨l.all (· == 0), ?_, ?_⟩
  · unfold f_Form_is_clear
    refine fn_go (by simp) ?_
    show Go m_Form_is_clear [frm n R V, .int k, .non, .non, .non] _
    unfold m_Form_is_clear
    have e0 : iRng (aCons (eP dAdd (aCons (eVar 1) (aCons (eC (.int 1)) aNil))) (aCons (eChk D.isFlat (eFld "Form" "high" (eVar 0))) aNil)) [frm n R V, .int k, .non, .non, .non] = some ((List.range (n - (k + 1))).map fun a : Nat => D.int ((k + 1 + a : Nat) : Int)) := rng_kn (k := k + 1) (by simp [fd_high, Option.filter_some]) (by omega) hn
    have e1 : (eLc (iRng (aCons (eP dAdd (aCons (eVar 1) (aCons (eC (.int 1)) aNil))) (aCons (eChk D.isFlat (eFld "Form" "high" (eVar 0))) aNil))) (gN 3) cYes m_Form_is_clear_e1) [frm n R V, .int k, .non, .non, .non] = some (.lst ((List.range (n - (k + 1))).map fun a => D.int (R (k + 1 + a) k))) := by
      rw [eLc_s, e0, ob_some]
      have l := lcL_map (t := gN 3) (c := cYes) (e := m_Form_is_clear_e1) (ρ := [frm n R V, .int k, .non, .non, .non]) (fun a : Nat => D.int ((k + 1 + a : Nat) : Int)) (fun a => D.int (R (k + 1 + a) k)) (List.range (n - (k + 1))) fun a ha => ⟨_, gN_s, cYes_s, by
        have ha := List.mem_range.mp ha
        show m_Form_is_clear_e1 [frm n R V, .int k, .non, .int ((k + 1 + a : Nat) : Int), .non] = _
        unfold m_Form_is_clear_e1
        simp only [eP_s, aCons_s, aNil_s, eVar_s, eC_s, List.getElem?_cons_zero, List.getElem?_cons_succ, ob_some, fd_rows, eChk_s, idx_tb (show k + 1 + a < n by omega), idx_row hk, Option.filter_some, fl_int, if_true]⟩
      exact congrArg (fun z => Option.ob z fun ys => some (D.lst ys)) l
    refine Go.set e1 ?_
    show Go m_Form_is_clear_1 [frm n R V, .int k, .lst ((List.range (n - (k + 1))).map fun a => D.int (R (k + 1 + a) k)), .non, .non] _
    unfold m_Form_is_clear_1
    have e2 : eP dAdd (aCons (eVar 1) (aCons (eC (.int 1)) aNil)) [frm n R V, .int k, .lst ((List.range (n - (k + 1))).map fun a => D.int (R (k + 1 + a) k)), .non, .non] = some (.int ((k + 1 : Nat) : Int)) := by simp
    have e3 : (eP dCatF (aCons (eVar 2) (aCons (eChk D.kidsFlat (eSl (eChk D.isLst (eP dIdx (aCons (eFld "Form" "rows" (eVar 0)) (aCons (eVar 1) aNil)))) (oSome (eP dAdd (aCons (eVar 1) (aCons (eC (.int 1)) aNil)))) oNone)) aNil))) [frm n R V, .int k, .lst ((List.range (n - (k + 1))).map fun a => D.int (R (k + 1 + a) k)), .non, .non] = some (.lst (l.map D.int)) := by
      simp only [eP_s, aCons_s, aNil_s, eChk_s, eSl_s, oSome_s, oNone_s]
      simp only [eVar_s, List.getElem?_cons_zero, List.getElem?_cons_succ, ob_some, fd_rows, idx_tb hk, eC_s, dI2_s]
      have e4 : (some (rowD n (R k))).filter D.isLst = some (rowD n (R k)) := rfl
      rw [e4, ob_some]
      have e5 : ((k : Int) + 1) = ((k + 1 : Nat) : Int) := by omega
      rw [e5]
      unfold rowD
      rw [dSl_l, row_cut hk]
      have e6 : (some (D.lst ((List.range (n - (k + 1))).map fun a => D.int (R k (k + 1 + a))))).filter D.kidsFlat = some (D.lst ((List.range (n - (k + 1))).map fun a => D.int (R k (k + 1 + a)))) := by
        rw [Option.filter_some, if_pos]
        show D.isFlatL _ = true
        rw [isFlatL_all]; simp [D.isFlat]
      rw [e6, ob_some, ob_some, ob_some, hl]
      unfold dCatF
      dsimp only
      rw [if_pos]
      · simp [Function.comp_def]
      · simp only [isFlatL_all, List.length_map, List.length_range]
        first | (refine ⟨?_, ?_⟩ <;> simp [D.isFlat] <;> omega) | (simp [D.isFlat] <;> omega) | omega
    refine Go.ret (d := .bl (l.all (· == 0))) ?_ rfl
    rw [eP_s, aCons_s, aNil_s, eLc_s, iLst_s, e3]
    simp only [ob_some, asL_l]
    have l4 := lcL_map (t := gF (gN 4)) (c := cYes) (e := m_Form_is_clear_e2) (ρ := [frm n R V, .int k, .lst ((List.range (n - (k + 1))).map fun a => D.int (R (k + 1 + a) k)), .non, .non]) D.int (fun z => D.bl (z == 0)) l fun z hz => ⟨_, by simp; rfl, cYes_s, by
      simp [m_Form_is_clear_e2, beq_dec]⟩
    rw [l4]
    simp only [ob_some]
    show (do some (D.bl ((← boolsOf (← itemsOf (.lst (l.map fun z => D.bl (z == 0))))).all id))) = _
    show (boolsOf (l.map fun z => D.bl (z == 0))).bind (fun a => some (D.bl (a.all id))) = _
    rw [VQ.boolsOf_map, Option.bind_some]
    congr 2
    rw [List.all_map]
    rfl
  · rw [List.all_eq_true, hl]
    constructor
    · intro h r h1 h2
      constructor
      · have := h (R r k) (List.mem_append_left _ (List.mem_map.mpr ⟨r - (k + 1), List.mem_range.mpr (by omega), by rw [show k + 1 + (r - (k + 1)) = r by omega]⟩))
        simpa using this
      · have := h (R k r) (List.mem_append_right _ (List.mem_map.mpr ⟨r - (k + 1), List.mem_range.mpr (by omega), by rw [show k + 1 + (r - (k + 1)) = r by omega]⟩))
        simpa using this
    · intro h z hz
      rcases List.mem_append.mp hz with hz | hz
      · obtain ⟨a, ha, rfl⟩ := List.mem_map.mp hz
        have := (h (k + 1 + a) (by omega) (by have := List.mem_range.mp ha; omega)).1
        simp [this]
      · obtain ⟨a, ha, rfl⟩ := List.mem_map.mp hz
        have := (h (k + 1 + a) (by omega) (by have := List.mem_range.mp ha; omega)).2
        simp [this]
end
end K42

/-! ## K42d -/
/-! k42: odd_row, bring; a table that is not diagonal at one pair of places; clear_down, clear_over -/
namespace K42
open PySem PySem.Spec PyProof.Rows L2 VV VP
section
variable {n k i j e : Nat} {R : Mx} {V : Vs} {ρ : List D}
theorem fmod0 {a b : Int} : b.fmod a = 0 ↔ a ∣ b := ⟨Int.dvd_of_fmod_eq_zero, Int.fmod_eq_zero_of_dvd⟩
theorem odd_row_ok (hk : k < n) (hn : n ≤ 1000) (hz : R k k ≠ 0) : ∃ d, f_Form_odd_row [frm n R V, .int k] = some (.ret d) ∧
    ((d = .non ∧ ∀ r s, k < r → r < n → k < s → s < n → R k k ∣ R r s) ∨ ∃ r : Nat, d = .int r ∧ k < r ∧ r < n ∧ ∃ s, k < s ∧ s < n ∧ ¬ R k k ∣ R r s) := by
  unfold f_Form_odd_row
  refine fn_ex (by simp) ?_
  show Go m_Form_odd_row [frm n R V, .int k, .non, .non] _
  unfold m_Form_odd_row
  rw [go_seq]
  refine VQ.go_forE (fun a : Nat => D.int ((k + 1 + a : Nat) : Int)) (List.range (n - (k + 1))) (fun a ρ => ∃ x2 x3, ρ = [frm n R V, .int k, x2, x3] ∧ ∀ r s, k < r → r < k + 1 + a → k < s → s < n → R k k ∣ R r s) (rng_kn (k := k + 1) (by simp [fd_high, Option.filter_some]) (by omega) hn) ⟨.non, .non, rfl, fun r s h1 h2 => by omega⟩ ?_ ?_
  · rintro a a' ρ ha ⟨x2, x3, rfl, hd⟩
    obtain ⟨hal, ha'⟩ := List.getElem?_eq_some_iff.mp ha
    simp only [List.length_range, List.getElem_range] at hal ha'
    subst ha'
    have hi : k + 1 + a < n := by omega
    refine ⟨_, gN_s, ?_⟩
    show Go m_Form_odd_row_b1 [frm n R V, .int k, .int ((k + 1 + a : Nat) : Int), x3] _
    unfold m_Form_odd_row_b1
    refine VQ.go_forE (fun b : Nat => D.int (R (k + 1 + a) (k + 1 + b))) (List.range (n - (k + 1))) (fun b ρ => ∃ x3, ρ = [frm n R V, .int k, .int ((k + 1 + a : Nat) : Int), x3] ∧ ∀ s, k < s → s < k + 1 + b → R k k ∣ R (k + 1 + a) s) ?_ ⟨x3, rfl, fun s h1 h2 => by omega⟩ ?_ ?_
    · simp only [iLst_s, eChk_s, eSl_s, oSome_s, oNone_s, eP_s, aCons_s, aNil_s]
      simp only [eVar_s, List.getElem?_cons_zero, List.getElem?_cons_succ, ob_some, fd_rows, idx_tb hi, eC_s, dI2_s]
      have e4 : (some (rowD n (R (k + 1 + a)))).filter D.isLst = some (rowD n (R (k + 1 + a))) := rfl
      rw [e4, ob_some]
      have e5 : ((k : Int) + 1) = ((k + 1 : Nat) : Int) := by omega
      rw [e5]
      unfold rowD
      rw [dSl_l, row_cut hk]
      have e6 : (some (D.lst ((List.range (n - (k + 1))).map fun b => D.int (R (k + 1 + a) (k + 1 + b))))).filter D.kidsFlat = some (D.lst ((List.range (n - (k + 1))).map fun b => D.int (R (k + 1 + a) (k + 1 + b)))) := by
        rw [Option.filter_some, if_pos]
        show D.isFlatL _ = true
        rw [isFlatL_all]; simp [D.isFlat]
      rw [e6]
      rfl
    · rintro b b' ρ hb ⟨x3, rfl, hd2⟩
      obtain ⟨hbl, hb'⟩ := List.getElem?_eq_some_iff.mp hb
      simp only [List.length_range, List.getElem_range] at hbl hb'
      subst hb'
      refine ⟨[frm n R V, .int k, .int ((k + 1 + a : Nat) : Int), .int (R (k + 1 + a) (k + 1 + b))], by simp, ?_⟩
      unfold m_Form_odd_row_b2
      have et : (tOf (eP dNe (aCons (eP dModF (aCons (eVar 3) (aCons (eChk D.isFlat (eP dIdx (aCons (eP dIdx (aCons (eFld "Form" "rows" (eVar 0)) (aCons (eVar 1) aNil))) (aCons (eVar 1) aNil)))) aNil))) (aCons (eC (.int 0)) aNil)))) [frm n R V, .int k, .int ((k + 1 + a : Nat) : Int), .int (R (k + 1 + a) (k + 1 + b))] = some (decide (¬ R k k ∣ R (k + 1 + a) (k + 1 + b))) := by
        simp only [tOf_s, eP_s, aCons_s, aNil_s, eVar_s, eC_s, List.getElem?_cons_zero, List.getElem?_cons_succ, ob_some, fd_rows, eChk_s, idx_tb hk, idx_row hk, Option.filter_some, fl_int, if_true, dModF_s hz]
        by_cases h : R k k ∣ R (k + 1 + a) (k + 1 + b)
        · simp [fmod0.mpr h, h]
        · have h0 : ¬ (R (k + 1 + a) (k + 1 + b)).fmod (R k k) = 0 := fun z => h (fmod0.mp z)
          simp [h0, h]
      refine go_ite et (fun h => ?_) fun h => ?_
      · refine Go.ret (d := .int ((k + 1 + a : Nat) : Int)) rfl (.inr ⟨_, rfl, .inr ⟨_, rfl, _, rfl, .inr ⟨k + 1 + a, rfl, by omega, hi, k + 1 + b, by omega, by omega, h⟩⟩⟩)
      · rw [go_nil]
        refine .inl ⟨_, .inl rfl, _, rfl, fun s h1 h2 => ?_⟩
        by_cases hs : s = k + 1 + b
        · subst hs; exact Decidable.not_not.mp h
        · exact hd2 s h1 (by omega)
    · rintro ρ ⟨x3, rfl, hd2⟩
      simp only [List.length_range] at hd2
      refine .inl ⟨_, .inl rfl, _, _, rfl, fun r s h1 h2 h3 h4 => ?_⟩
      by_cases hr : r = k + 1 + a
      · subst hr; exact hd2 s h3 (by omega)
      · exact hd r s h1 (by omega) h3 h4
  · rintro ρ ⟨x2, x3, rfl, hd⟩
    simp only [List.length_range] at hd
    rw [cont_nx]
    exact Go.ret (d := .non) rfl ⟨_, rfl, .inl ⟨rfl, fun r s h1 h2 h3 h4 => hd r s h1 (by omega) h3 h4⟩⟩
/-! ### bring -/
theorem sw_self {r : Nat} : sw k k r = r := by
  unfold sw
  split
  · rename_i h; exact h.symm
  · rfl
theorem swpRow_self : swpRow R k k = R := by funext r c; unfold swpRow; rw [sw_self]
theorem swpCol_self : swpCol R k k = R := by funext r c; unfold swpCol; rw [sw_self]
theorem bring_ok (hk : k < n) (hi : i < n) (hj : j < n) (hV : V.ok n e) : ∃ V', f_Form_bring [frm n R V, .int k, .tup [.int i, .int j]] = some (frm n (swpCol (swpRow R k i) k j) V') ∧ V'.ok n e := by
  unfold f_Form_bring
  suffices h : ∃ d, semO 3 [.flat, .flat] m_Form_bring [frm n R V, .int k, .tup [.int i, .int j]] = some d ∧ ∃ V', d = frm n (swpCol (swpRow R k i) k j) V' ∧ V'.ok n e by
    obtain ⟨d, h1, V', rfl, h2⟩ := h
    exact ⟨V', h1, h2⟩
  refine semO_ex (by simp) ?_
  show GoO m_Form_bring [frm n R V, .int k, .tup [.int i, .int j]] _
  have ne : ∀ {a b : Nat}, dNe [.int (a : Int), .int (b : Int)] = some (.bl (decide (a ≠ b))) := fun {a b} => by
    by_cases h : a = b
    · subst h; simp
    · have : ¬ ((a : Int) = b) := by omega
      simp [h, this]
  unfold m_Form_bring
  refine GoO.seq ?_
  refine go_ite (p := i ≠ k) ?_ (fun h => ?_) fun h => ?_
  · simp only [tOf_s, eP_s, aCons_s, aNil_s, eVar_s, eC_s, List.getElem?_cons_zero, List.getElem?_cons_succ, ob_some, dIdx_t, atI_0, ne, asB_s]
  · obtain ⟨V1, h1, h2⟩ := swap_down_ok (R := R) hk hi hV
    refine ⟨_, ometh_ok (by decide) (xs := [.int k, .int i]) (by simp) h1, _, rfl, ?_⟩
    unfold m_Form_bring_1
    refine GoO.seq (go_ite (p := j ≠ k) ?_ (fun h => ?_) fun h => ?_)
    · simp only [tOf_s, eP_s, aCons_s, aNil_s, eVar_s, eC_s, List.getElem?_cons_zero, List.getElem?_cons_succ, ob_some, dIdx_t, atI_1, ne, asB_s]
    · obtain ⟨V2, h3, h4⟩ := swap_over_ok (R := swpRow R k i) hk hj h2
      exact ⟨_, ometh_ok (by decide) (xs := [.int k, .int j]) (by simp) h3, _, rfl, GoO.nil ⟨_, _, .inl rfl, rfl, V2, rfl, h4⟩⟩
    · have : j = k := by omega
      subst this
      rw [go_nil]
      exact ⟨_, rfl, GoO.nil ⟨_, _, .inl rfl, rfl, V1, by rw [swpCol_self], h2⟩⟩
  · have : i = k := by omega
    subst this
    rw [go_nil]
    refine ⟨_, rfl, ?_⟩
    unfold m_Form_bring_1
    refine GoO.seq (go_ite (p := j ≠ i) ?_ (fun h => ?_) fun h => ?_)
    · simp only [tOf_s, eP_s, aCons_s, aNil_s, eVar_s, eC_s, List.getElem?_cons_zero, List.getElem?_cons_succ, ob_some, dIdx_t, atI_1, ne, asB_s]
    · obtain ⟨V2, h3, h4⟩ := swap_over_ok (R := R) hk hj hV
      exact ⟨_, ometh_ok (by decide) (xs := [.int i, .int j]) (by simp) h3, _, rfl, GoO.nil ⟨_, _, .inl rfl, rfl, V2, by rw [swpRow_self], h4⟩⟩
    · have : j = i := by omega
      subst this
      rw [go_nil]
      exact ⟨_, rfl, GoO.nil ⟨_, _, .inl rfl, rfl, V, by rw [swpCol_self, swpRow_self], hV⟩⟩
end
/-! ### one pair of places -/
def blk (k j : Nat) (a b c d : Int) (x : Nat → Int) : Mx := fun r s => if r = k then (if s = k then a else if s = j then b else 0) else if r = j then (if s = k then c else if s = j then d else 0) else if r = s then x r else 0
def dg (x : Nat → Int) : Mx := fun r s => if r = s then x r else 0
section
variable {k j : Nat} {a b c d t : Int} {x : Nat → Int}
theorem addRow_blk (h : k ≠ j) : addRow (blk k j a b c d x) j k t = blk k j a b (c + t * a) (d + t * b) x := by
  funext r s
  unfold addRow blk
  by_cases h1 : r = j
  · subst h1
    have h' : ¬ r = k := fun z => h z.symm
    by_cases h2 : s = k
    · subst h2; simp [h']
    · by_cases h3 : s = r
      · subst h3; simp [h']
      · simp [h', h2, h3]
  · simp [h1]
theorem addCol_blk (h : k ≠ j) : addCol (blk k j a b c d x) j k t = blk k j a (b + t * a) c (d + t * c) x := by
  funext r s
  unfold addCol blk
  by_cases h1 : s = j
  · subst h1
    have h' : ¬ s = k := fun z => h z.symm
    by_cases h2 : r = k
    · subst h2; simp [h']
    · by_cases h3 : r = s
      · subst h3; simp [h']
      · simp [h', h2, h3]
  · simp [h1]
theorem swpRow_blk (h : k ≠ j) : swpRow (blk k j a b c d x) k j = blk k j c d a b x := by
  funext r s
  unfold swpRow blk sw
  have h' : ¬ j = k := fun z => h z.symm
  by_cases h1 : r = j
  · subst h1; simp [h']
  · by_cases h2 : r = k
    · subst h2; simp [h, h']
    · simp [h1, h2]
theorem swpCol_blk (h : k ≠ j) : swpCol (blk k j a b c d x) k j = blk k j b a d c x := by
  funext r s
  unfold swpCol blk sw
  have h' : ¬ j = k := fun z => h z.symm
  by_cases h1 : s = j
  · subst h1
    by_cases h2 : r = k
    · subst h2; simp [h, h']
    · by_cases h3 : r = s
      · subst h3; simp [h']
      · have : ¬ r = k := h2
        simp [h2, h3]
  · by_cases h2 : s = k
    · subst h2
      by_cases h4 : r = s
      · subst h4; simp [h, h']
      · by_cases h3 : r = j
        · subst h3; simp [h, h4]
        · simp [h3, h4, h]
    · simp [h1, h2]
theorem blk_dg (h : k ≠ j) : blk k j a 0 0 d x = dg fun r => if r = k then a else if r = j then d else x r := by
  funext r s
  unfold blk dg
  by_cases h1 : r = k
  · subst h1
    by_cases h2 : s = r
    · subst h2; simp
    · simp [h2, Ne.symm h2]
  · by_cases h2 : r = j
    · subst h2
      by_cases h3 : s = r
      · subst h3; simp [h1]
      · simp [h1, h3, Ne.symm h3]
    · simp [h1, h2]
theorem odd_blk (h : k ≠ j) : addRow (dg x) k j 1 = blk k j (x k) (x j) 0 (x j) x := by
  funext r s
  unfold addRow dg blk
  have h' : ¬ j = k := fun z => h z.symm
  by_cases h1 : r = k
  · subst h1
    by_cases h2 : s = r
    · subst h2; simp [h']
    · by_cases h3 : s = j
      · subst h3; simp [h, h2]
      · simp [h2, h3, Ne.symm h2, Ne.symm h3]
  · by_cases h2 : r = j
    · subst h2
      by_cases h3 : s = r
      · subst h3; simp [h1]
      · by_cases h4 : s = k
        · subst h4; simp [h1]
        · simp [h1, h3, h4, Ne.symm h3]
    · simp [h1, h2]
theorem bring_dg : swpCol (swpRow (dg x) k j) k j = dg fun r => x (sw k j r) := by
  funext r s
  unfold swpCol swpRow dg
  have inj : sw k j r = sw k j s ↔ r = s := by unfold sw; split <;> split <;> (try split) <;> (try split) <;> omega
  by_cases h : r = s
  · subst h; simp
  · rw [if_neg (fun z => h (inj.mp z)), if_neg h]
theorem turn_dg : addRow (dg x) k k (-2) = dg fun r => if r = k then -x k else x r := by
  funext r s
  unfold addRow dg
  by_cases h1 : r = k
  · subst h1
    by_cases h2 : r = s
    · subst h2; simp; omega
    · simp [h2]
  · simp [h1]
end
/-! ### numbers -/
theorem natAbs_fdiv_le (a b : Int) : (a.fdiv b).natAbs ≤ a.natAbs := by
  by_cases h : 0 ≤ b
  · rw [Int.fdiv_eq_ediv_of_nonneg a h]; exact Int.natAbs_ediv_le_natAbs a b
  · rw [← Int.neg_fdiv_neg, Int.fdiv_eq_ediv_of_nonneg _ (by omega)]
    exact Nat.le_trans (Int.natAbs_ediv_le_natAbs _ _) (by omega)
theorem cdz {b : Nat} {x y : Int} (h : y ≠ 0) (hb : Bn b y) (h9 : b ≤ 9000) : CDivZ x y := ⟨h, by
  have := (Nat.log2_lt (n := y.natAbs) (by omega) (k := b)).mpr hb
  omega⟩
end K42

/-! ## K42e -/
/-! k42: clear_down, clear_over -/
namespace K42
open PySem PySem.Spec PyProof.Rows L2 VV VP
section
variable {n k j e : Nat} {a b c d : Int} {x : Nat → Int} {V : Vs}
theorem blk_bn {B r s : Nat} (hr : r = k ∨ s = k) (hkj : k ≠ j) (ha : Bn B a) (hb : Bn B b) (hc : Bn B c) (hd : Bn B d) : Bn B (blk k j a b c d x r s) := by
  unfold blk
  split
  · split
    · exact ha
    · split
      · exact hb
      · exact Bn.zero
  · split
    · split
      · exact hc
      · split
        · exact hd
        · exact Bn.zero
    · rename_i h1 h2
      rw [if_neg (by rcases hr with h | h <;> omega)]
      exact Bn.zero
theorem blk_kk : blk k j a b c d x k k = a := by simp [blk]
theorem blk_kj (h : k ≠ j) : blk k j a b c d x k j = b := by simp [blk, Ne.symm h]
theorem blk_jk (h : k ≠ j) : blk k j a b c d x j k = c := by simp [blk, Ne.symm h]
theorem blk_jj (h : k ≠ j) : blk k j a b c d x j j = d := by simp [blk, Ne.symm h]
theorem blk_dn {r : Nat} (h : r ≠ k) (h2 : r ≠ j) : blk k j a b c d x r k = 0 := by simp [blk, h, h2]
theorem blk_ov {r : Nat} (h : r ≠ k) (h2 : r ≠ j) : blk k j a b c d x k r = 0 := by simp [blk, h, h2]
theorem ne0 {z : Int} : dNe [.int z, .int 0] = some (.bl (decide (z ≠ 0))) := by
  by_cases h : z = 0
  · subst h; simp
  · simp [h]
theorem clear_down_ok (hkj : k < j) (hj : j < n) (hn : n ≤ 1000) (ha0 : a ≠ 0) (ha : Bn 1000 a) (hb : Bn 1000 b) (hc : Bn 1000 c) (hd : Bn 1000 d) (hV : V.ok n e) (he : e + 1024 ≤ 134217728) :
    ∃ V', f_Form_clear_down [frm n (blk k j a b c d x) V, .int k] = some (frm n (blk k j a b (c.fmod a) (d - c.fdiv a * b) x) V') ∧ V'.ok n (e + 1024) := by
  have hkj' : k ≠ j := by omega
  unfold f_Form_clear_down
  suffices h : ∃ D0, semO 4 [.flat] m_Form_clear_down [frm n (blk k j a b c d x) V, .int k] = some D0 ∧ ∃ V', D0 = frm n (blk k j a b (c.fmod a) (d - c.fdiv a * b) x) V' ∧ V'.ok n (e + 1024) by
    obtain ⟨d, h1, V', rfl, h2⟩ := h
    exact ⟨V', h1, h2⟩
  refine semO_ex (by simp) ?_
  show GoO m_Form_clear_down [frm n (blk k j a b c d x) V, .int k, .non, .non] _
  unfold m_Form_clear_down
  refine GoO.seq ?_
  refine go_for (fun t : Nat => D.int ((k + 1 + t : Nat) : Int)) (List.range (n - (k + 1))) (fun t ρ => ∃ V1 x2 x3, ρ = [frm n (if j < k + 1 + t then blk k j a b (c.fmod a) (d - c.fdiv a * b) x else blk k j a b c d x) V1, .int k, x2, x3] ∧ V1.ok n (if j < k + 1 + t then e + 1024 else e))
    (rng_kn (k := k + 1) (by simp [fd_high, Option.filter_some]) (by omega) hn) ⟨V, .non, .non, by rw [if_neg (by omega)], by rw [if_neg (by omega)]; exact hV⟩ ?_ ?_
  · rintro t t' ρ ht ⟨V1, x2, x3, rfl, hV1⟩
    obtain ⟨htl, ht'⟩ := List.getElem?_eq_some_iff.mp ht
    simp only [List.length_range, List.getElem_range] at htl ht'
    subst ht'
    have hi : k + 1 + t < n := by omega
    have hk : k < n := by omega
    refine ⟨_, gN_s, ?_⟩
    by_cases hij : k + 1 + t = j
    · rw [if_neg (show ¬ j < k + 1 + t by omega)] at hV1 ⊢
      show Go m_Form_clear_down_b1 [frm n (blk k j a b c d x) V1, .int k, .int ((k + 1 + t : Nat) : Int), x3] _
      rw [hij]
      unfold m_Form_clear_down_b1
      refine Go.set (d := .int (c.fdiv a)) ?_ ?_
      · simp only [eP_s, aCons_s, aNil_s, eVar_s, eC_s, List.getElem?_cons_zero, List.getElem?_cons_succ, ob_some, fd_rows, eChk_s, idx_tb hj, idx_tb hk, idx_row hk, Option.filter_some, fl_int, if_true, blk_kk, blk_jk hkj', dDivF_s (cdz ha0 ha (by omega))]
      · show Go m_Form_clear_down_b1_1 [frm n (blk k j a b c d x) V1, .int k, .int (j : Nat), .int (c.fdiv a)] _
        unfold m_Form_clear_down_b1_1
        refine go_ite (p := c.fdiv a ≠ 0) (by simp only [tOf_s, eP_s, aCons_s, aNil_s, eVar_s, eC_s, List.getElem?_cons_zero, List.getElem?_cons_succ, ob_some, ne0, asB_s]) (fun h => ?_) fun h => ?_
        · unfold m_Form_clear_down_c1
          obtain ⟨V2, h1, h2⟩ := add_down_ok (R := blk k j a b c d x) (t := -(c.fdiv a)) hj hk (Bn.neg (show Bn 1000 _ from Nat.lt_of_le_of_lt (natAbs_fdiv_le c a) hc)) (fun s hs => (blk_bn (.inl rfl) hkj' ha hb hc hd).mono (by omega)) hV1 he
          refine ⟨_, ometh_ok (by decide) (xs := [.int j, .int k, .int (-(c.fdiv a))]) (by simp) h1, _, .inl rfl, V2, .int (j : Nat), .int (c.fdiv a), ?_, ?_⟩
          · rw [if_pos (by omega), addRow_blk hkj']
            have e1 : c + -c.fdiv a * a = c.fmod a := by rw [Int.fmod_def]; grind
            have e2 : d + -c.fdiv a * b = d - c.fdiv a * b := by grind
            rw [e1, e2]
          · rw [if_pos (by omega)]; exact h2
        · have h0 : c.fdiv a = 0 := Decidable.not_not.mp h
          rw [go_nil]
          refine ⟨_, .inl rfl, V1, .int (j : Nat), .int (c.fdiv a), ?_, ?_⟩
          · rw [if_pos (by omega)]
            have e1 : c.fmod a = c := by rw [Int.fmod_def, h0]; simp
            rw [e1, h0]; simp
          · rw [if_pos (by omega)]; exact hV1.mono (by omega)
    · obtain ⟨c', d', hcd⟩ : ∃ c' d', (if j < k + 1 + t then blk k j a b (c.fmod a) (d - c.fdiv a * b) x else blk k j a b c d x) = blk k j a b c' d' x := by split; exact ⟨_, _, rfl⟩; exact ⟨_, _, rfl⟩
      have hsame : (j < k + 1 + (t + 1)) = (j < k + 1 + t) := by
        apply propext; omega
      simp only [hsame]
      rw [hcd]
      show Go m_Form_clear_down_b1 [frm n (blk k j a b c' d' x) V1, .int k, .int ((k + 1 + t : Nat) : Int), x3] _
      unfold m_Form_clear_down_b1
      refine Go.set (d := .int 0) ?_ ?_
      · simp only [eP_s, aCons_s, aNil_s, eVar_s, eC_s, List.getElem?_cons_zero, List.getElem?_cons_succ, ob_some, fd_rows, eChk_s, idx_tb hi, idx_tb hk, idx_row hk, Option.filter_some, fl_int, if_true, blk_kk, blk_dn (show k + 1 + t ≠ k by omega) hij, dDivF_s (cdz ha0 ha (by omega)), Int.zero_fdiv]
      · show Go m_Form_clear_down_b1_1 [frm n (blk k j a b c' d' x) V1, .int k, .int ((k + 1 + t : Nat) : Int), .int 0] _
        unfold m_Form_clear_down_b1_1
        rw [go_f (by simp only [tOf_s, eP_s, aCons_s, aNil_s, eVar_s, eC_s, List.getElem?_cons_zero, List.getElem?_cons_succ, ob_some, ne0, asB_s]; simp), go_nil]
        exact ⟨_, .inl rfl, V1, _, _, rfl, hV1⟩
  · rintro ρ ⟨V1, x2, x3, rfl, hV1⟩
    simp only [List.length_range] at hV1 ⊢
    rw [if_pos (by omega)] at hV1 ⊢
    exact ⟨_, rfl, GoO.nil ⟨_, _, .inl rfl, rfl, V1, rfl, hV1⟩⟩
theorem clear_over_ok (hkj : k < j) (hj : j < n) (hn : n ≤ 1000) (ha0 : a ≠ 0) (ha : Bn 1000 a) (hb : Bn 1000 b) (hc : Bn 1000 c) (hd : Bn 1000 d) (hV : V.ok n e) (he : e + 1024 ≤ 134217728) :
    ∃ V', f_Form_clear_over [frm n (blk k j a b c d x) V, .int k] = some (frm n (blk k j a (b.fmod a) c (d - b.fdiv a * c) x) V') ∧ V'.ok n (e + 1024) := by
  have hkj' : k ≠ j := by omega
  unfold f_Form_clear_over
  suffices h : ∃ D0, semO 4 [.flat] m_Form_clear_over [frm n (blk k j a b c d x) V, .int k] = some D0 ∧ ∃ V', D0 = frm n (blk k j a (b.fmod a) c (d - b.fdiv a * c) x) V' ∧ V'.ok n (e + 1024) by
    obtain ⟨d, h1, V', rfl, h2⟩ := h
    exact ⟨V', h1, h2⟩
  refine semO_ex (by simp) ?_
  show GoO m_Form_clear_over [frm n (blk k j a b c d x) V, .int k, .non, .non] _
  unfold m_Form_clear_over
  refine GoO.seq ?_
  refine go_for (fun t : Nat => D.int ((k + 1 + t : Nat) : Int)) (List.range (n - (k + 1))) (fun t ρ => ∃ V1 x2 x3, ρ = [frm n (if j < k + 1 + t then blk k j a (b.fmod a) c (d - b.fdiv a * c) x else blk k j a b c d x) V1, .int k, x2, x3] ∧ V1.ok n (if j < k + 1 + t then e + 1024 else e))
    (rng_kn (k := k + 1) (by simp [fd_wide, Option.filter_some]) (by omega) hn) ⟨V, .non, .non, by rw [if_neg (by omega)], by rw [if_neg (by omega)]; exact hV⟩ ?_ ?_
  · rintro t t' ρ ht ⟨V1, x2, x3, rfl, hV1⟩
    obtain ⟨htl, ht'⟩ := List.getElem?_eq_some_iff.mp ht
    simp only [List.length_range, List.getElem_range] at htl ht'
    subst ht'
    have hi : k + 1 + t < n := by omega
    have hk : k < n := by omega
    refine ⟨_, gN_s, ?_⟩
    by_cases hij : k + 1 + t = j
    · rw [if_neg (show ¬ j < k + 1 + t by omega)] at hV1 ⊢
      show Go m_Form_clear_over_b1 [frm n (blk k j a b c d x) V1, .int k, .int ((k + 1 + t : Nat) : Int), x3] _
      rw [hij]
      unfold m_Form_clear_over_b1
      refine Go.set (d := .int (b.fdiv a)) ?_ ?_
      · simp only [eP_s, aCons_s, aNil_s, eVar_s, eC_s, List.getElem?_cons_zero, List.getElem?_cons_succ, ob_some, fd_rows, eChk_s, idx_tb hj, idx_tb hk, idx_row hk, idx_row hj, Option.filter_some, fl_int, if_true, blk_kk, blk_kj hkj', dDivF_s (cdz ha0 ha (by omega))]
      · show Go m_Form_clear_over_b1_1 [frm n (blk k j a b c d x) V1, .int k, .int (j : Nat), .int (b.fdiv a)] _
        unfold m_Form_clear_over_b1_1
        refine go_ite (p := b.fdiv a ≠ 0) (by simp only [tOf_s, eP_s, aCons_s, aNil_s, eVar_s, eC_s, List.getElem?_cons_zero, List.getElem?_cons_succ, ob_some, ne0, asB_s]) (fun h => ?_) fun h => ?_
        · unfold m_Form_clear_over_c1
          obtain ⟨V2, h1, h2⟩ := add_over_ok (R := blk k j a b c d x) (t := -(b.fdiv a)) hj hk (Bn.neg (show Bn 1000 _ from Nat.lt_of_le_of_lt (natAbs_fdiv_le b a) hb)) (fun s hs => (blk_bn (.inr rfl) hkj' ha hb hc hd).mono (by omega)) hV1 he
          refine ⟨_, ometh_ok (by decide) (xs := [.int j, .int k, .int (-(b.fdiv a))]) (by simp) h1, _, .inl rfl, V2, .int (j : Nat), .int (b.fdiv a), ?_, ?_⟩
          · rw [if_pos (by omega), addCol_blk hkj']
            have e1 : b + -b.fdiv a * a = b.fmod a := by rw [Int.fmod_def]; grind
            have e2 : d + -b.fdiv a * c = d - b.fdiv a * c := by grind
            rw [e1, e2]
          · rw [if_pos (by omega)]; exact h2
        · have h0 : b.fdiv a = 0 := Decidable.not_not.mp h
          rw [go_nil]
          refine ⟨_, .inl rfl, V1, .int (j : Nat), .int (b.fdiv a), ?_, ?_⟩
          · rw [if_pos (by omega)]
            have e1 : b.fmod a = b := by rw [Int.fmod_def, h0]; simp
            rw [e1, h0]; simp
          · rw [if_pos (by omega)]; exact hV1.mono (by omega)
    · obtain ⟨b', d', hcd⟩ : ∃ b' d', (if j < k + 1 + t then blk k j a (b.fmod a) c (d - b.fdiv a * c) x else blk k j a b c d x) = blk k j a b' c d' x := by split; exact ⟨_, _, rfl⟩; exact ⟨_, _, rfl⟩
      have hsame : (j < k + 1 + (t + 1)) = (j < k + 1 + t) := by
        apply propext; omega
      simp only [hsame]
      rw [hcd]
      show Go m_Form_clear_over_b1 [frm n (blk k j a b' c d' x) V1, .int k, .int ((k + 1 + t : Nat) : Int), x3] _
      unfold m_Form_clear_over_b1
      refine Go.set (d := .int 0) ?_ ?_
      · simp only [eP_s, aCons_s, aNil_s, eVar_s, eC_s, List.getElem?_cons_zero, List.getElem?_cons_succ, ob_some, fd_rows, eChk_s, idx_tb hk, idx_row hk, idx_row hi, Option.filter_some, fl_int, if_true, blk_kk, blk_ov (show k + 1 + t ≠ k by omega) hij, dDivF_s (cdz ha0 ha (by omega)), Int.zero_fdiv]
      · show Go m_Form_clear_over_b1_1 [frm n (blk k j a b' c d' x) V1, .int k, .int ((k + 1 + t : Nat) : Int), .int 0] _
        unfold m_Form_clear_over_b1_1
        rw [go_f (by simp only [tOf_s, eP_s, aCons_s, aNil_s, eVar_s, eC_s, List.getElem?_cons_zero, List.getElem?_cons_succ, ob_some, ne0, asB_s]; simp), go_nil]
        exact ⟨_, .inl rfl, V1, _, _, rfl, hV1⟩
  · rintro ρ ⟨V1, x2, x3, rfl, hV1⟩
    simp only [List.length_range] at hV1 ⊢
    rw [if_pos (by omega)] at hV1 ⊢
    exact ⟨_, rfl, GoO.nil ⟨_, _, .inl rfl, rfl, V1, rfl, hV1⟩⟩
end
end K42

/-! ## K42f -/
/-! k42: how far a form is from being clear (no program in sight) -/
namespace K42
/-- the lesser one of those that aren't 0 -/
def lz (u v : Nat) : Nat := if u = 0 then v else if v = 0 then u else min u v
theorem lz_spec (u v : Nat) : (u = 0 ∧ lz u v = v) ∨ (u ≠ 0 ∧ v = 0 ∧ lz u v = u) ∨ (u ≠ 0 ∧ v ≠ 0 ∧ u ≤ v ∧ lz u v = u) ∨ (u ≠ 0 ∧ v ≠ 0 ∧ v ≤ u ∧ lz u v = v) := by
  unfold lz
  by_cases h : u = 0
  · simp [h]
  · by_cases h2 : v = 0
    · simp [h, h2]
    · rw [if_neg h, if_neg h2]
      rcases Nat.le_total u v with z | z
      · exact .inr (.inr (.inl ⟨h, h2, z, Nat.min_eq_left z⟩))
      · exact .inr (.inr (.inr ⟨h, h2, z, Nat.min_eq_right z⟩))
def mu (b c d : Int) : Nat := lz (lz b.natAbs c.natAbs) d.natAbs
def wt (a b c d : Int) : Nat := a.natAbs * (if b = 0 ∧ c = 0 then a.natAbs else mu b c d)
def ind (b c d : Int) : Nat := if b = 0 ∧ c = 0 then 1 else if mu b c d < lz b.natAbs c.natAbs then 1 else 0
def pot (a b c d : Int) : Nat := 2 * Nat.log2 (wt a b c d) + ind b c d
theorem ind_le {b c d : Int} : ind b c d ≤ 1 := by unfold ind; split; omega; split <;> omega
theorem log2_half {x y : Nat} (h0 : 0 < x) (h : 2 * x ≤ y) : Nat.log2 x + 1 ≤ Nat.log2 y := by
  rw [Nat.le_log2 (by omega), Nat.pow_succ]
  have := (Nat.le_log2 (n := x) (by omega) (k := x.log2)).mp (Nat.le_refl _)
  omega
theorem log2_mono {x y : Nat} (h0 : 0 < x) (h : x ≤ y) : Nat.log2 x ≤ Nat.log2 y := by
  rw [Nat.le_log2 (by omega)]
  have := (Nat.le_log2 (n := x) (by omega) (k := x.log2)).mp (Nat.le_refl _)
  omega
theorem mu_pos {b c d : Int} (h : ¬ (b = 0 ∧ c = 0)) : 0 < mu b c d := by
  have z1 := lz_spec b.natAbs c.natAbs
  have z2 := lz_spec (lz b.natAbs c.natAbs) d.natAbs
  unfold mu
  omega
theorem mu_b {b c d : Int} (h : b ≠ 0) : mu b c d ≤ b.natAbs := by
  have z1 := lz_spec b.natAbs c.natAbs
  have z2 := lz_spec (lz b.natAbs c.natAbs) d.natAbs
  unfold mu
  omega
theorem mu_c {b c d : Int} (h : c ≠ 0) : mu b c d ≤ c.natAbs := by
  have z1 := lz_spec b.natAbs c.natAbs
  have z2 := lz_spec (lz b.natAbs c.natAbs) d.natAbs
  unfold mu
  omega
structure AC (P : Nat) (a b c d : Int) : Prop where
  a0 : a ≠ 0
  hb : b.natAbs < a.natAbs
  hc : c.natAbs < a.natAbs
  sb : 0 ≤ a * b
  sc : 0 ≤ a * c
  det : (a * d - b * c).natAbs = P
  big : a.natAbs * a.natAbs ≤ P
theorem fm (a x : Int) (h : a ≠ 0) : x = a * x.fdiv a + x.fmod a ∧ (x.fmod a).natAbs < a.natAbs ∧ 0 ≤ a * x.fmod a := by
  refine ⟨(Int.mul_fdiv_add_fmod x a).symm, ?_, ?_⟩
  · by_cases ha : 0 < a
    · have h1 := Int.fmod_lt_of_pos x ha
      have h2 := Int.fmod_nonneg_of_pos x ha
      omega
    · have e := Int.neg_fmod_neg (-x) (-a)
      simp only [Int.neg_neg] at e
      rw [e]
      have h1 := Int.fmod_lt_of_pos (-x) (b := -a) (by omega)
      have h2 := Int.fmod_nonneg_of_pos (-x) (b := -a) (by omega)
      omega
  · by_cases ha : 0 < a
    · exact Int.mul_nonneg (by omega) (Int.fmod_nonneg_of_pos x ha)
    · have e := Int.neg_fmod_neg (-x) (-a)
      simp only [Int.neg_neg] at e
      rw [e]
      have h2 := Int.fmod_nonneg_of_pos (-x) (b := -a) (by omega)
      have := Int.mul_nonneg (a := -a) (b := (-x).fmod (-a)) (by omega) h2
      grind
/-- what stands behind clear_down, clear_over -/
theorem ac_clear {P : Nat} {a b c d : Int} (h : a ≠ 0) (hdet : (a * d - b * c).natAbs = P) (hP : a.natAbs * a.natAbs ≤ P) : AC P a (b.fmod a) (c.fmod a) (d - c.fdiv a * b - b.fdiv a * c.fmod a) := by
  obtain ⟨h1, h2, h3⟩ := fm a b h
  obtain ⟨h4, h5, h6⟩ := fm a c h
  refine ⟨h, h2, h5, h3, h6, ?_, hP⟩
  rw [← hdet]
  congr 1
  rw [Int.fmod_def, Int.fmod_def]
  grind
/-- the number a behind a division by a lesser one of its sign -/
theorem rest {a b : Int} (h0 : b ≠ 0) (hb : b.natAbs < a.natAbs) (hs : 0 ≤ a * b) : (a.fmod b).natAbs < b.natAbs ∧ (a.fmod b).natAbs + b.natAbs ≤ a.natAbs ∧ (a.fmod b = 0 → 2 * b.natAbs ≤ a.natAbs) := by
  obtain ⟨h1, h2, h3⟩ := fm b a h0
  obtain ⟨q, hq⟩ : ∃ q, q = a.fdiv b := ⟨_, rfl⟩
  obtain ⟨r, hr⟩ : ∃ r, r = a.fmod b := ⟨_, rfl⟩
  rw [← hq, ← hr] at h1
  rw [← hr] at h2 h3 ⊢
  -- by signs
  have key : ∀ (a b r q : Int), 0 < b → a = b * q + r → r.natAbs < b.natAbs → 0 ≤ b * r → b.natAbs < a.natAbs → 0 ≤ a * b → r.natAbs + b.natAbs ≤ a.natAbs ∧ (r = 0 → 2 * b.natAbs ≤ a.natAbs) := by
    intro a b r q hb0 e hr hs2 hab hs1
    have hr0 : 0 ≤ r := by
      rcases Int.lt_or_le r 0 with z | z
      · have := Int.mul_neg_of_pos_of_neg hb0 z; omega
      · exact z
    have ha0 : 0 ≤ a := by
      rcases Int.lt_or_le a 0 with z | z
      · have := Int.mul_neg_of_neg_of_pos z hb0; omega
      · exact z
    have hq1 : 1 ≤ q := by
      rcases Int.lt_or_le q 1 with z | z
      · have : b * q ≤ 0 := by
          have := Int.mul_le_mul_of_nonneg_left (show q ≤ 0 by omega) (show 0 ≤ b by omega)
          simpa using this
        omega
      · exact z
    have h1 : b * 1 ≤ b * q := Int.mul_le_mul_of_nonneg_left hq1 (by omega)
    refine ⟨by omega, fun hz => ?_⟩
    have hq2 : 2 ≤ q := by
      rcases Int.lt_or_le q 2 with z | z
      · have : q = 1 := by omega
        subst this
        omega
      · exact z
    have h2 : b * 2 ≤ b * q := Int.mul_le_mul_of_nonneg_left hq2 (by omega)
    omega
  rcases Int.lt_or_lt_of_ne h0 with hneg | hpos
  · obtain ⟨k1, k2⟩ := key (-a) (-b) (-r) q (by omega) (by rw [h1]; grind) (by omega) (by rw [Int.neg_mul_neg]; exact h3) (by omega) (by rw [Int.neg_mul_neg]; exact hs)
    exact ⟨h2, by omega, fun hz => by have := k2 (by omega); omega⟩
  · obtain ⟨k1, k2⟩ := key a b r q hpos h1 h2 h3 hb hs
    exact ⟨h2, k1, k2⟩
/-- a lesser number of a's sign came to (k, k); where a stands, r is left, besides it s -/
theorem pot_bc {a m b c d : Int} {Q : Nat} (h0 : m ≠ 0) (hm : m.natAbs < a.natAbs) (hs : 0 ≤ a * m) (hr : a.fmod m = b ∨ a.fmod m = c) (hb : b.natAbs < m.natAbs) (hc : c.natAbs < m.natAbs) (hQ : a.natAbs * m.natAbs ≤ Q) : pot m b c d < 2 * Nat.log2 Q := by
  obtain ⟨h1, h2, h3⟩ := rest h0 hm hs
  have key : 0 < wt m b c d ∧ 2 * wt m b c d ≤ Q := by
    unfold wt
    have hm0 : 0 < m.natAbs := by omega
    split
    · rename_i h
      have : 2 * m.natAbs ≤ a.natAbs := h3 (by rcases hr with z | z <;> rw [z]; exact h.1; exact h.2)
      have h4 : m.natAbs * (2 * m.natAbs) ≤ m.natAbs * a.natAbs := Nat.mul_le_mul_left _ this
      have e1 : m.natAbs * (2 * m.natAbs) = 2 * (m.natAbs * m.natAbs) := by rw [Nat.mul_left_comm]
      have e2 : m.natAbs * a.natAbs = a.natAbs * m.natAbs := Nat.mul_comm _ _
      exact ⟨Nat.mul_pos hm0 hm0, by omega⟩
    · rename_i h
      have h5 : 2 * mu b c d ≤ a.natAbs := by
        by_cases hz : a.fmod m = 0
        · have := h3 hz
          by_cases hb0 : b = 0
          · have : c ≠ 0 := fun z => h ⟨hb0, z⟩
            have := mu_c (b := b) (d := d) this
            omega
          · have := mu_b (c := c) (d := d) hb0
            omega
        · rcases hr with z | z
          · have := mu_b (c := c) (d := d) (b := b) (by rw [← z]; exact hz)
            rw [z] at h1 h2
            omega
          · have := mu_c (b := b) (d := d) (c := c) (by rw [← z]; exact hz)
            rw [z] at h1 h2
            omega
      have h4 : m.natAbs * (2 * mu b c d) ≤ m.natAbs * a.natAbs := Nat.mul_le_mul_left _ h5
      have e1 : m.natAbs * (2 * mu b c d) = 2 * (m.natAbs * mu b c d) := by rw [Nat.mul_left_comm]
      have e2 : m.natAbs * a.natAbs = a.natAbs * m.natAbs := Nat.mul_comm _ _
      exact ⟨Nat.mul_pos hm0 (mu_pos h), by omega⟩
  have := log2_half key.1 key.2
  have := ind_le (b := b) (c := c) (d := d)
  unfold pot
  omega
section
variable {P : Nat} {a b c d : Int}
theorem pot_ge (h : ¬ (b = 0 ∧ c = 0)) : 2 * Nat.log2 (a.natAbs * mu b c d) ≤ pot a b c d := by
  unfold pot wt
  rw [if_neg h]
  omega
theorem mu_of_b (h0 : b ≠ 0) (h1 : c ≠ 0 → b.natAbs ≤ c.natAbs) (h2 : d ≠ 0 → b.natAbs ≤ d.natAbs) : mu b c d = b.natAbs := by
  have z1 := lz_spec b.natAbs c.natAbs
  have z2 := lz_spec (lz b.natAbs c.natAbs) d.natAbs
  unfold mu
  omega
theorem mu_of_c (h0 : c ≠ 0) (h1 : b ≠ 0 → c.natAbs ≤ b.natAbs) (h2 : d ≠ 0 → c.natAbs ≤ d.natAbs) : mu b c d = c.natAbs := by
  have z1 := lz_spec b.natAbs c.natAbs
  have z2 := lz_spec (lz b.natAbs c.natAbs) d.natAbs
  unfold mu
  omega
theorem mu_of_d (h0 : d ≠ 0) (h1 : b ≠ 0 → d.natAbs < b.natAbs) (h2 : c ≠ 0 → d.natAbs < c.natAbs) : mu b c d = d.natAbs := by
  have z1 := lz_spec b.natAbs c.natAbs
  have z2 := lz_spec (lz b.natAbs c.natAbs) d.natAbs
  unfold mu
  omega
/-- b comes to (k, k) -/
theorem pot_b (h : AC P a b c d) (h0 : b ≠ 0) (h1 : c ≠ 0 → b.natAbs ≤ c.natAbs) (h2 : d ≠ 0 → b.natAbs ≤ d.natAbs) (z : Int) : pot b (a.fmod b) (d.fmod b) z < pot a b c d := by
  have e := pot_ge (a := a) (b := b) (c := c) (d := d) fun q => h0 q.1
  rw [mu_of_b h0 h1 h2] at e
  exact Nat.lt_of_lt_of_le (pot_bc h0 h.hb h.sb (.inl rfl) (fm b a h0).2.1 (fm b d h0).2.1 (Nat.le_refl _)) e
theorem pot_c (h : AC P a b c d) (h0 : c ≠ 0) (h1 : b ≠ 0 → c.natAbs ≤ b.natAbs) (h2 : d ≠ 0 → c.natAbs ≤ d.natAbs) (z : Int) : pot c (d.fmod c) (a.fmod c) z < pot a b c d := by
  have e := pot_ge (a := a) (b := b) (c := c) (d := d) fun q => h0 q.2
  rw [mu_of_c h0 h1 h2] at e
  exact Nat.lt_of_lt_of_le (pot_bc h0 h.hc h.sc (.inr rfl) (fm c d h0).2.1 (fm c a h0).2.1 (Nat.le_refl _)) e
/-- a lesser one at (j, j) is there but once -/
theorem once (h : AC P a b c d) (hn : ¬ (b = 0 ∧ c = 0)) (h0 : d ≠ 0) (h1 : b ≠ 0 → d.natAbs < b.natAbs) (h2 : c ≠ 0 → d.natAbs < c.natAbs) {b' c' d' : Int} (h' : AC P d b' c' d') : ind b' c' d' = 0 ∨ b' = 0 ∧ c' = 0 := by
  unfold ind
  split
  · rename_i z; exact .inr z
  · rename_i hn'
    left
    rw [if_neg]
    intro hlt
    have hA := h.hb
    have hA2 := h.hc
    have hB := h'.hb
    have hB2 := h'.hc
    have hd' : d'.natAbs < d.natAbs := by
      have e : mu b' c' d' = d'.natAbs := by
        have z1 := lz_spec b'.natAbs c'.natAbs
        have z2 := lz_spec (lz b'.natAbs c'.natAbs) d'.natAbs
        unfold mu at hlt ⊢
        omega
      have : lz b'.natAbs c'.natAbs < d.natAbs := by
        have z1 := lz_spec b'.natAbs c'.natAbs
        omega
      omega
    have hd0 : 0 < d.natAbs := by omega
    -- the one bound
    have p1 : P ≤ d.natAbs * d'.natAbs + b'.natAbs * c'.natAbs := by
      rw [← h'.det, ← Int.natAbs_mul, ← Int.natAbs_mul]
      omega
    have q1 : d.natAbs * d'.natAbs ≤ d.natAbs * d.natAbs := Nat.mul_le_mul_left _ (by omega)
    have q2 : b'.natAbs * c'.natAbs < d.natAbs * d.natAbs := Nat.mul_lt_mul'' hB hB2
    -- the other
    have hx : (a * d).natAbs = a.natAbs * d.natAbs := Int.natAbs_mul _ _
    have hy : (b * c).natAbs = b.natAbs * c.natAbs := Int.natAbs_mul _ _
    have hda : d.natAbs < a.natAbs := by
      by_cases z : b = 0
      · have := h2 fun y => hn ⟨z, y⟩; omega
      · have := h1 z; omega
    have r1 : a.natAbs * d.natAbs < a.natAbs * a.natAbs := Nat.mul_lt_mul_of_pos_left hda (by omega)
    have r2 : d.natAbs * d.natAbs ≤ a.natAbs * d.natAbs := Nat.mul_le_mul_right _ (by omega)
    have hdet := h.det
    have hbig := h.big
    by_cases zb : b = 0
    · subst zb; simp at hdet hy; omega
    · by_cases zc : c = 0
      · subst zc; simp at hdet hy; omega
      · have r3 : b.natAbs * c.natAbs < a.natAbs * a.natAbs := Nat.mul_lt_mul'' hA hA2
        have r4 : d.natAbs * d.natAbs < b.natAbs * c.natAbs := Nat.mul_lt_mul'' (h1 zb) (h2 zc)
        have hbc : 0 ≤ b * c := by
          have s1 := h.sb
          have s2 := h.sc
          have a0 := h.a0
          rcases Int.lt_or_lt_of_ne a0 with ha | ha
          · have b1 : b ≤ 0 := by
              rcases Int.lt_or_le 0 b with z | z
              · have := Int.mul_neg_of_neg_of_pos ha z; omega
              · exact z
            have c1 : c ≤ 0 := by
              rcases Int.lt_or_le 0 c with z | z
              · have := Int.mul_neg_of_neg_of_pos ha z; omega
              · exact z
            exact Int.mul_nonneg_of_nonpos_of_nonpos b1 c1
          · have b1 : 0 ≤ b := by
              rcases Int.lt_or_le b 0 with z | z
              · have := Int.mul_neg_of_pos_of_neg ha z; omega
              · exact z
            have c1 : 0 ≤ c := by
              rcases Int.lt_or_le c 0 with z | z
              · have := Int.mul_neg_of_pos_of_neg ha z; omega
              · exact z
            exact Int.mul_nonneg b1 c1
        omega
theorem pot_d (h : AC P a b c d) (hn : ¬ (b = 0 ∧ c = 0)) (h0 : d ≠ 0) (h1 : b ≠ 0 → d.natAbs < b.natAbs) (h2 : c ≠ 0 → d.natAbs < c.natAbs) {z : Int} (h' : AC P d (c.fmod d) (b.fmod d) z) : pot d (c.fmod d) (b.fmod d) z < pot a b c d := by
  have em := mu_of_d h0 h1 h2
  have hd0 : 0 < d.natAbs := by omega
  have hi : ind b c d = 1 := by
    unfold ind
    rw [if_neg hn, em, if_pos]
    unfold lz
    split
    · rename_i q
      have : c ≠ 0 := fun y => hn ⟨by omega, y⟩
      exact h2 this
    · split
      · exact h1 (by omega)
      · have := h1 (by omega); have := h2 (by omega); omega
  have e : pot a b c d = 2 * Nat.log2 (a.natAbs * d.natAbs) + 1 := by
    unfold pot wt
    rw [if_neg hn, em, hi]
  rw [e]
  have hA := h.hb
  have hA2 := h.hc
  rcases once h hn h0 h1 h2 h' with hq | hq
  · unfold pot
    rw [hq]
    have key : 0 < wt d (c.fmod d) (b.fmod d) z ∧ wt d (c.fmod d) (b.fmod d) z ≤ a.natAbs * d.natAbs := by
      unfold wt
      have hda : d.natAbs < a.natAbs := by
        by_cases y : b = 0
        · have := h2 fun q => hn ⟨y, q⟩; omega
        · have := h1 y; omega
      split
      · exact ⟨Nat.mul_pos hd0 hd0, Nat.mul_le_mul_right _ (by omega)⟩
      · rename_i q
        refine ⟨Nat.mul_pos hd0 (mu_pos q), ?_⟩
        rw [Nat.mul_comm a.natAbs]
        refine Nat.mul_le_mul_left _ ?_
        by_cases y : c.fmod d = 0
        · have := mu_c (b := c.fmod d) (d := z) fun q' => q ⟨y, q'⟩
          have := h'.hc
          omega
        · have := mu_b (c := b.fmod d) (d := z) y
          have := h'.hb
          omega
    have := log2_mono key.1 key.2
    omega
  · have key : 2 * d.natAbs ≤ a.natAbs := by
      have go : ∀ x : Int, x ≠ 0 → d.natAbs < x.natAbs → x.fmod d = 0 → 2 * d.natAbs ≤ x.natAbs := fun x hx hl hz => by
        obtain ⟨q, hq⟩ := Int.dvd_of_fmod_eq_zero hz
        have e : x.natAbs = d.natAbs * q.natAbs := by rw [hq, Int.natAbs_mul]
        have : 2 ≤ q.natAbs := by
          rcases Nat.lt_or_ge q.natAbs 2 with y | y
          · have : q.natAbs = 0 ∨ q.natAbs = 1 := by omega
            rcases this with y | y <;> rw [y] at e <;> omega
          · exact y
        have := Nat.mul_le_mul_left d.natAbs this
        omega
      by_cases y : b = 0
      · have hc0 : c ≠ 0 := fun q => hn ⟨y, q⟩
        have := go c hc0 (h2 hc0) hq.1
        omega
      · have := go b y (h1 y) hq.2
        omega
    have w : wt d (c.fmod d) (b.fmod d) z = d.natAbs * d.natAbs := by
      unfold wt
      rw [if_pos hq]
    have : ind (c.fmod d) (b.fmod d) z ≤ 1 := ind_le
    unfold pot
    rw [w]
    have h5 : d.natAbs * (2 * d.natAbs) ≤ d.natAbs * a.natAbs := Nat.mul_le_mul_left _ key
    have e1 : d.natAbs * (2 * d.natAbs) = 2 * (d.natAbs * d.natAbs) := by rw [Nat.mul_left_comm]
    have e2 : d.natAbs * a.natAbs = a.natAbs * d.natAbs := Nat.mul_comm _ _
    have := log2_half (Nat.mul_pos hd0 hd0) (show 2 * (d.natAbs * d.natAbs) ≤ a.natAbs * d.natAbs by omega)
    omega
/-- a clear one, and an odd row added -/
theorem pot_odd {y : Int} (h0 : a ≠ 0) (hy : ¬ a ∣ y) (hl : a.natAbs ≤ y.natAbs) : pot a (y.fmod a) 0 y < pot a 0 0 d := by
  obtain ⟨h1, h2, h3⟩ := fm a y h0
  have hz : y.fmod a ≠ 0 := fun z => hy (Int.dvd_of_fmod_eq_zero z)
  have em : mu (y.fmod a) 0 y = (y.fmod a).natAbs := mu_of_b hz (fun z => absurd rfl z) fun _ => by omega
  have e1 : pot a 0 0 d = 2 * Nat.log2 (a.natAbs * a.natAbs) + 1 := by simp [pot, wt, ind]
  have e2 : pot a (y.fmod a) 0 y = 2 * Nat.log2 (a.natAbs * (y.fmod a).natAbs) := by
    unfold pot wt ind
    rw [if_neg (fun z => hz z.1), if_neg (fun z => hz z.1), em, if_neg]
    · rfl
    · unfold lz
      split
      · omega
      · simp
  rw [e1, e2]
  have := log2_mono (x := a.natAbs * (y.fmod a).natAbs) (y := a.natAbs * a.natAbs) (Nat.mul_pos (by omega) (by omega)) (Nat.mul_le_mul_left _ (by omega))
  omega
end
end K42

/-! ## K42g -/
/-! k42: products of greatest common numbers; a pair of places, at a turn's head (no program in sight) -/
namespace K42
theorem gcd_mul_gcd (a d t : Nat) : Nat.gcd a t * Nat.gcd d t = Nat.gcd (Nat.gcd (a * d) (Nat.gcd a d * t)) (t * t) := by
  rw [← Nat.gcd_mul_right, ← Nat.gcd_mul_left, ← Nat.gcd_mul_left, ← Nat.gcd_mul_right]
  rw [Nat.mul_comm t d]
  -- gcd (gcd (a d) (a t)) (gcd (d t) (t t)) = gcd (gcd (a d) (gcd (a t) (d t))) (t t)
  rw [← Nat.gcd_assoc, ← Nat.gcd_assoc]
theorem gcd_pair {a d p q : Nat} (hm : a * d = p * q) (hg : Nat.gcd a d = Nat.gcd p q) (t : Nat) : Nat.gcd a t * Nat.gcd d t = Nat.gcd p t * Nat.gcd q t := by
  rw [gcd_mul_gcd, gcd_mul_gcd, hm, hg]
def gp (x : Nat → Int) (t : Nat) : Nat → Nat
  | 0 => 1
  | n + 1 => gp x t n * Nat.gcd (x n).natAbs t
def up (x : Nat → Int) (k : Nat) (a : Int) : Nat → Int := fun r => if r = k then a else x r
theorem gp_congr {x y : Nat → Int} {t : Nat} : ∀ {n : Nat}, (∀ r, r < n → (x r).natAbs = (y r).natAbs) → gp x t n = gp y t n
  | 0, _ => rfl
  | n + 1, h => by
    unfold gp
    rw [gp_congr fun r hr => h r (by omega), h n (by omega)]
theorem gp_up {x : Nat → Int} {t k : Nat} {a : Int} : ∀ {n : Nat}, k < n → gp (up x k a) t n * Nat.gcd (x k).natAbs t = gp x t n * Nat.gcd a.natAbs t
  | 0, h => by omega
  | n + 1, h => by
    unfold gp
    by_cases e : k = n
    · subst e
      have e1 : gp (up x k a) t k = gp x t k := gp_congr fun r hr => by unfold up; rw [if_neg (by omega)]
      have e2 : up x k a k = a := by simp [up]
      rw [e1, e2]
      grind
    · have e2 : up x k a n = x n := by unfold up; rw [if_neg (by omega)]
      have ih := gp_up (x := x) (t := t) (a := a) (n := n) (k := k) (by omega)
      rw [e2]
      grind
theorem gp_pos {x : Nat → Int} {t : Nat} : ∀ {n : Nat}, (∀ r, r < n → x r ≠ 0) → 0 < gp x t n
  | 0, _ => by unfold gp; omega
  | n + 1, h => by
    unfold gp
    exact Nat.mul_pos (gp_pos fun r hr => h r (by omega)) (Nat.gcd_pos_of_pos_left _ (by have := h n (by omega); omega))
/-- two places changed -/
def up2 (x : Nat → Int) (k j : Nat) (a d : Int) : Nat → Int := fun r => if r = k then a else if r = j then d else x r
theorem up2_up {x : Nat → Int} {k j : Nat} {a d : Int} : up2 x k j a d = up (up x j d) k a := by funext r; unfold up2 up; rfl
theorem gp_up2 {x : Nat → Int} {k j n t : Nat} {a d : Int} (hkj : k ≠ j) (hk : k < n) (hj : j < n) : gp (up2 x k j a d) t n * (Nat.gcd (x k).natAbs t * Nat.gcd (x j).natAbs t) = gp x t n * (Nat.gcd a.natAbs t * Nat.gcd d.natAbs t) := by
  rw [up2_up]
  have h1 := gp_up (x := up x j d) (t := t) (a := a) hk
  have h2 := gp_up (x := x) (t := t) (a := d) hj
  have e : up x j d k = x k := by unfold up; rw [if_neg hkj]
  rw [e] at h1
  grind
theorem gp_swap {x : Nat → Int} {k j n t : Nat} {a d : Int} (hkj : k ≠ j) (hk : k < n) (hj : j < n) (hx : ∀ r, r < n → x r ≠ 0) (h : Nat.gcd a.natAbs t * Nat.gcd d.natAbs t = Nat.gcd (x k).natAbs t * Nat.gcd (x j).natAbs t) : gp (up2 x k j a d) t n = gp x t n := by
  have := gp_up2 (x := x) (t := t) (a := a) (d := d) hkj hk hj
  rw [h] at this
  have p1 : 0 < Nat.gcd (x k).natAbs t := Nat.gcd_pos_of_pos_left _ (by have := hx k hk; omega)
  have p2 : 0 < Nat.gcd (x j).natAbs t := Nat.gcd_pos_of_pos_left _ (by have := hx j hj; omega)
  exact Nat.eq_of_mul_eq_mul_right (Nat.mul_pos p1 p2) this
/-- two of them are no more than all -/
theorem gp_two {x : Nat → Int} {k j n : Nat} (hkj : k ≠ j) (hk : k < n) (hj : j < n) (hx : ∀ r, r < n → x r ≠ 0) : (x k).natAbs * (x j).natAbs ≤ gp x 0 n := by
  have h := gp_up2 (x := x) (t := 0) (a := 1) (d := 1) hkj hk hj
  simp only [Nat.gcd_zero_right] at h
  have p : 0 < gp (up2 x k j 1 1) 0 n := gp_pos fun r hr => by
    unfold up2
    split
    · decide
    · split
      · decide
      · exact hx r hr
  have : 1 * ((x k).natAbs * (x j).natAbs) ≤ gp (up2 x k j 1 1) 0 n * ((x k).natAbs * (x j).natAbs) := Nat.mul_le_mul_right _ p
  simp at h
  omega
/-! ### a turn's head -/
structure Hd (n k j : Nat) (a b c d : Int) (x : Nat → Int) : Prop where
  kj : k < j
  jn : j < n
  a0 : a ≠ 0
  nz : ∀ r, r < n → x r ≠ 0
  det : (a * d - b * c).natAbs = (x k).natAbs * (x j).natAbs
  big : a.natAbs * a.natAbs ≤ (x k).natAbs * (x j).natAbs
  dv : ∀ m : Int, (m ∣ a ∧ m ∣ b ∧ m ∣ c ∧ m ∣ d) ↔ (m ∣ x k ∧ m ∣ x j)
  le : ∀ r, k < r → r < n → a.natAbs ≤ (x r).natAbs
  bb : b.natAbs ≤ 2 * ((x k).natAbs * (x j).natAbs)
  bc : c.natAbs ≤ 2 * ((x k).natAbs * (x j).natAbs)
  bd : d.natAbs ≤ 2 * ((x k).natAbs * (x j).natAbs)
  pq : gp x 0 n < 2 ^ 450
section
variable {n k j : Nat} {a b c d : Int} {x : Nat → Int}
theorem Hd.q (h : Hd n k j a b c d x) : (x k).natAbs * (x j).natAbs < 2 ^ 450 := Nat.lt_of_le_of_lt (gp_two (by have := h.kj; omega) (by have := h.kj; have := h.jn; omega) h.jn h.nz) h.pq
theorem Hd.aq (h : Hd n k j a b c d x) : a.natAbs ≤ (x k).natAbs * (x j).natAbs := by
  have := h.big
  have h2 : a.natAbs * 1 ≤ a.natAbs * a.natAbs := Nat.mul_le_mul_left _ (by have := h.a0; omega)
  omega
theorem Hd.clear (h : Hd n k j a b c d x) : AC ((x k).natAbs * (x j).natAbs) a (b.fmod a) (c.fmod a) (d - c.fdiv a * b - b.fdiv a * c.fmod a) := ac_clear h.a0 h.det h.big
/-- the number at (j, j) stays small -/
theorem AC.dle {P : Nat} (h : AC P a b c d) : d.natAbs ≤ 2 * P := by
  have h1 := h.det
  have h2 : b.natAbs * c.natAbs < a.natAbs * a.natAbs := Nat.mul_lt_mul'' h.hb h.hc
  have h3 := h.big
  have e1 : (a * d).natAbs = a.natAbs * d.natAbs := Int.natAbs_mul _ _
  have e2 : (b * c).natAbs = b.natAbs * c.natAbs := Int.natAbs_mul _ _
  have e3 : 1 * d.natAbs ≤ a.natAbs * d.natAbs := Nat.mul_le_mul_right _ (by have := h.a0; omega)
  omega
theorem dv_clear (a b c d : Int) (m : Int) : (m ∣ a ∧ m ∣ b.fmod a ∧ m ∣ c.fmod a ∧ m ∣ d - c.fdiv a * b - b.fdiv a * c.fmod a) ↔ (m ∣ a ∧ m ∣ b ∧ m ∣ c ∧ m ∣ d) := by
  have eb := Int.mul_fdiv_add_fmod b a
  have ec := Int.mul_fdiv_add_fmod c a
  constructor
  · rintro ⟨h1, h2, h3, h4⟩
    have hb : m ∣ b := by rw [← eb]; exact Int.dvd_add (Int.dvd_trans h1 (Int.dvd_mul_right _ _)) h2
    have hc : m ∣ c := by rw [← ec]; exact Int.dvd_add (Int.dvd_trans h1 (Int.dvd_mul_right _ _)) h3
    refine ⟨h1, hb, hc, ?_⟩
    have e : d = (d - c.fdiv a * b - b.fdiv a * c.fmod a) + c.fdiv a * b + b.fdiv a * c.fmod a := by omega
    rw [e]
    exact Int.dvd_add (Int.dvd_add h4 (Int.dvd_trans hb (Int.dvd_mul_left _ _))) (Int.dvd_trans h3 (Int.dvd_mul_left _ _))
  · rintro ⟨h1, h2, h3, h4⟩
    have hb : m ∣ b.fmod a := by
      rw [Int.fmod_def]; exact Int.dvd_sub h2 (Int.dvd_trans h1 (Int.dvd_mul_right _ _))
    have hc : m ∣ c.fmod a := by
      rw [Int.fmod_def]; exact Int.dvd_sub h3 (Int.dvd_trans h1 (Int.dvd_mul_right _ _))
    exact ⟨h1, hb, hc, Int.dvd_sub (Int.dvd_sub h4 (Int.dvd_trans h2 (Int.dvd_mul_left _ _))) (Int.dvd_trans hc (Int.dvd_mul_left _ _))⟩
/-- the head of the next turn, behind a change of places -/
theorem Hd.next (h : Hd n k j a b c d x) {a1 b1 c1 d1 : Int} (h0 : a1 ≠ 0) (hl : a1.natAbs ≤ a.natAbs) (hdet : (a1 * d1 - b1 * c1).natAbs = (x k).natAbs * (x j).natAbs) (hdv : ∀ m : Int, (m ∣ a1 ∧ m ∣ b1 ∧ m ∣ c1 ∧ m ∣ d1) ↔ (m ∣ x k ∧ m ∣ x j))
    (hb : b1.natAbs ≤ 2 * ((x k).natAbs * (x j).natAbs)) (hc : c1.natAbs ≤ 2 * ((x k).natAbs * (x j).natAbs)) (hd : d1.natAbs ≤ 2 * ((x k).natAbs * (x j).natAbs)) : Hd n k j a1 b1 c1 d1 x :=
  ⟨h.kj, h.jn, h0, h.nz, hdet, Nat.le_trans (Nat.mul_le_mul hl hl) h.big, hdv, fun r h1 h2 => Nat.le_trans hl (h.le r h1 h2), hb, hc, hd, h.pq⟩
/-- what was is what comes -/
structure Fi (n k : Nat) (x y : Nat → Int) : Prop where
  lo : ∀ r, r < k → y r = x r
  nz : ∀ r, r < n → y r ≠ 0
  gp : ∀ t, gp y t n = gp x t n
  dv : ∀ m : Int, (∀ r, k ≤ r → r < n → m ∣ x r) → ∀ r, k ≤ r → r < n → m ∣ y r
theorem Fi.trans {z y : Nat → Int} (h : Fi n k x y) (h' : Fi n k y z) : Fi n k x z :=
  ⟨fun r hr => (h'.lo r hr).trans (h.lo r hr), h'.nz, fun t => (h'.gp t).trans (h.gp t), fun m hm => h'.dv m (h.dv m hm)⟩
theorem Fi.refl (h : ∀ r, r < n → x r ≠ 0) : Fi n k x x := ⟨fun _ _ => rfl, h, fun _ => rfl, fun _ h => h⟩
/-- a pair that is clear -/
theorem Hd.fin (h : Hd n k j a b c d x) (hb : b = 0) (hc : c = 0) : Fi n k x (up2 x k j a d) ∧ a.natAbs ≤ d.natAbs := by
  subst hb hc
  have hk : k < n := by have := h.kj; have := h.jn; omega
  have hkj : k ≠ j := by have := h.kj; omega
  have hm : a.natAbs * d.natAbs = (x k).natAbs * (x j).natAbs := by
    have := h.det
    rw [← this, ← Int.natAbs_mul]
    congr 1
    simp
  have hal : a.natAbs ≤ d.natAbs := by
    have h1 := h.big
    rw [← hm] at h1
    exact Nat.le_of_mul_le_mul_left h1 (by have := h.a0; omega)
  have hg : Nat.gcd a.natAbs d.natAbs = Nat.gcd (x k).natAbs (x j).natAbs := by
    have hdv := h.dv
    apply Nat.dvd_antisymm
    · have := (hdv (Nat.gcd a.natAbs d.natAbs : Nat)).mp ⟨Int.ofNat_dvd_left.mpr (Nat.gcd_dvd_left _ _), Int.dvd_zero _, Int.dvd_zero _, Int.ofNat_dvd_left.mpr (Nat.gcd_dvd_right _ _)⟩
      exact Nat.dvd_gcd (Int.ofNat_dvd_left.mp this.1) (Int.ofNat_dvd_left.mp this.2)
    · have := (hdv (Nat.gcd (x k).natAbs (x j).natAbs : Nat)).mpr ⟨Int.ofNat_dvd_left.mpr (Nat.gcd_dvd_left _ _), Int.ofNat_dvd_left.mpr (Nat.gcd_dvd_right _ _)⟩
      exact Nat.dvd_gcd (Int.ofNat_dvd_left.mp this.1) (Int.ofNat_dvd_left.mp this.2.2.2)
  refine ⟨⟨fun r hr => ?_, fun r hr => ?_, fun t => gp_swap hkj hk h.jn h.nz (gcd_pair hm hg t), fun m hm' r h1 h2 => ?_⟩, hal⟩
  · unfold up2
    have := h.kj
    rw [if_neg (by omega), if_neg (by omega)]
  · unfold up2
    split
    · exact h.a0
    · split
      · have := h.a0; omega
      · exact h.nz r hr
  · have := (h.dv m).mpr ⟨hm' k (Nat.le_refl _) hk, hm' j (by have := h.kj; omega) h.jn⟩
    unfold up2
    split
    · exact this.1
    · split
      · exact this.2.2.2
      · exact hm' r h1 h2
/-- an odd row is added: the next pair's head -/
theorem Hd.odd (h : Hd n k j a 0 0 d x) {i : Nat} (hi : k < i) (hin : i < n) : Hd n k i a (up2 x k j a d i) 0 (up2 x k j a d i) (up2 x k j a d) := by
  obtain ⟨F, hal⟩ := h.fin rfl rfl
  have hk : k < n := by omega
  have e : up2 x k j a d k = a := by simp [up2]
  have hl : ∀ r, k < r → r < n → a.natAbs ≤ (up2 x k j a d r).natAbs := fun r h1 h2 => by
    unfold up2
    rw [if_neg (by omega)]
    split
    · exact hal
    · exact h.le r h1 h2
  have hle : (up2 x k j a d i).natAbs ≤ a.natAbs * (up2 x k j a d i).natAbs := by
    have : 1 * (up2 x k j a d i).natAbs ≤ a.natAbs * (up2 x k j a d i).natAbs := Nat.mul_le_mul_right _ (by have := h.a0; omega)
    omega
  refine ⟨hi, hin, h.a0, F.nz, ?_, ?_, fun m => ?_, hl, ?_, ?_, ?_, ?_⟩
  · rw [e, ← Int.natAbs_mul]; congr 1; simp
  · rw [e]; exact Nat.mul_le_mul_left _ (hl i hi hin)
  · rw [e]
    exact ⟨fun z => ⟨z.1, z.2.1⟩, fun z => ⟨z.1, z.2, Int.dvd_zero _, z.2⟩⟩
  · rw [e]; omega
  · simp
  · rw [e]; omega
  · rw [F.gp]; exact h.pq
end
end K42

/-! ## K42i -/
set_option exponentiation.threshold 1000
/-! k42: settle -/
namespace K42
open PySem PySem.Spec PyProof.Rows L2 VV VP
section
variable {n k j e : Nat} {a b c d : Int} {x : Nat → Int} {V : Vs} {od : D}
theorem bnq {q : Nat} {z : Int} (h : z.natAbs ≤ 2 * q) (hq : q < 2 ^ 450) : Bn 1000 z := by
  have : z.natAbs < 2 ^ 451 := by
    have : (2 : Nat) ^ 451 = 2 * 2 ^ 450 := by rw [Nat.pow_succ, Nat.mul_comm]
    omega
  exact Bn.mono (n := 451) this (by decide)
theorem blk_at {r s : Nat} (h : blk k j a b c d x r s ≠ 0) (hkj : k ≠ j) : (r = k ∧ s = k ∧ blk k j a b c d x r s = a) ∨ (r = k ∧ s = j ∧ blk k j a b c d x r s = b) ∨ (r = j ∧ s = k ∧ blk k j a b c d x r s = c) ∨ (r = j ∧ s = j ∧ blk k j a b c d x r s = d) ∨ (r ≠ k ∧ r ≠ j ∧ s = r ∧ blk k j a b c d x r s = x r) := by
  unfold blk at h ⊢
  by_cases h1 : r = k
  · subst h1
    simp only [if_true] at h ⊢
    by_cases h2 : s = r
    · subst h2; simp
    · by_cases h3 : s = j
      · subst h3; simp [h2]
      · simp [h2, h3] at h
  · simp only [if_neg h1] at h ⊢
    by_cases h2 : r = j
    · subst h2
      simp only [if_true] at h ⊢
      by_cases h3 : s = k
      · subst h3; simp [h1]
      · by_cases h4 : s = r
        · subst h4; simp [h1]
        · simp [h3, h4] at h
    · simp only [if_neg h2] at h ⊢
      by_cases h3 : r = s
      · subst h3; simp [h1, h2]
      · simp [h3] at h
/-- the least number of a pair that is not clear -/
theorem least_pair {D0 : D} (hkj : k < j) (hj : j < n) (h0 : a ≠ 0) (hb : b.natAbs < a.natAbs) (hc : c.natAbs < a.natAbs) (hx : ∀ r, k < r → r < n → a.natAbs ≤ (x r).natAbs) (hn : ¬ (b = 0 ∧ c = 0)) (h : Lst (blk k j a b c d x) (Sq n k) D0) :
    (D0 = .tup [.int k, .int j] ∧ b ≠ 0 ∧ (c ≠ 0 → b.natAbs ≤ c.natAbs) ∧ (d ≠ 0 → b.natAbs ≤ d.natAbs)) ∨ (D0 = .tup [.int j, .int k] ∧ c ≠ 0 ∧ (b ≠ 0 → c.natAbs ≤ b.natAbs) ∧ (d ≠ 0 → c.natAbs ≤ d.natAbs)) ∨
    (D0 = .tup [.int j, .int j] ∧ d ≠ 0 ∧ (b ≠ 0 → d.natAbs < b.natAbs) ∧ (c ≠ 0 → d.natAbs < c.natAbs)) := by
  have hkj' : k ≠ j := by omega
  have s1 : Sq n k k j := by unfold Sq; omega
  have s2 : Sq n k j k := by unfold Sq; omega
  have s3 : Sq n k j j := by unfold Sq; omega
  have v1 : blk k j a b c d x k j = b := blk_kj hkj'
  have v2 : blk k j a b c d x j k = c := blk_jk hkj'
  have v3 : blk k j a b c d x j j = d := blk_jj hkj'
  rcases h with ⟨rfl, hz⟩ | ⟨i0, j0, rfl, hs, hv, hle, hlt⟩
  · exact absurd (by have := hz k j s1; rw [v1] at this; have h2 := hz j k s2; rw [v2] at h2; exact ⟨this, h2⟩) hn
  · have b1 : b ≠ 0 → (blk k j a b c d x i0 j0).natAbs ≤ b.natAbs := fun q => by have := hle k j s1 (by rw [v1]; exact q); rwa [v1] at this
    have b2 : c ≠ 0 → (blk k j a b c d x i0 j0).natAbs ≤ c.natAbs := fun q => by have := hle j k s2 (by rw [v2]; exact q); rwa [v2] at this
    have b3 : d ≠ 0 → (blk k j a b c d x i0 j0).natAbs ≤ d.natAbs := fun q => by have := hle j j s3 (by rw [v3]; exact q); rwa [v3] at this
    have small : (blk k j a b c d x i0 j0).natAbs < a.natAbs := by
      by_cases q : b = 0
      · have := b2 fun q2 => hn ⟨q, q2⟩; omega
      · have := b1 q; omega
    rcases blk_at hv hkj' with ⟨rfl, rfl, e⟩ | ⟨rfl, rfl, e⟩ | ⟨rfl, rfl, e⟩ | ⟨rfl, rfl, e⟩ | ⟨h1, h2, rfl, e⟩
    · rw [e] at small; omega
    · rw [e] at b1 b2 b3 hv
      exact .inl ⟨rfl, hv, b2, b3⟩
    · rw [e] at b1 b2 b3 hv
      exact .inr (.inl ⟨rfl, hv, b1, b3⟩)
    · have b4 : b ≠ 0 → d.natAbs < b.natAbs := fun q => by have := hlt k j0 s1 (by omega) (by rw [v1]; exact q); rwa [v1, e] at this
      have b5 : c ≠ 0 → d.natAbs < c.natAbs := fun q => by have := hlt j0 k s2 (by omega) (by rw [v2]; exact q); rwa [v2, e] at this
      rw [e] at hv
      exact .inr (.inr ⟨rfl, hv, b4, b5⟩)
    · rw [e] at small
      unfold Sq at hs
      have := hx j0 (by omega) (by omega)
      omega
abbrev zz (a b c d : Int) : Int := d - c.fdiv a * b - b.fdiv a * c.fmod a
theorem settle_turn (hn : n ≤ 1000) (h : Hd n k j a b c d x) (hV : V.ok n e) (he : e + 3072 ≤ 134217728) : ∃ o, m_Form_settle_b1 [frm n (blk k j a b c d x) V, .int k, od] = some o ∧
    ((∃ y V' od', o = .rt [frm n (dg y) V', .int k, od'] ∧ V'.ok n (e + 3072) ∧ Fi n k x y ∧ ∀ r, k < r → r < n → y k ∣ y r) ∨
    ∃ j1 a1 b1 c1 d1 x1 V' od', (o = .nx [frm n (blk k j1 a1 b1 c1 d1 x1) V', .int k, od'] ∨ o = .ct [frm n (blk k j1 a1 b1 c1 d1 x1) V', .int k, od']) ∧ V'.ok n (e + 3072) ∧ Hd n k j1 a1 b1 c1 d1 x1 ∧ Fi n k x x1 ∧ pot a1 (b1.fmod a1) (c1.fmod a1) (zz a1 b1 c1 d1) < pot a (b.fmod a) (c.fmod a) (zz a b c d)) := by
  show GoO m_Form_settle_b1 _ _
  have hq := h.q
  have hkj := h.kj
  have hjn := h.jn
  have hkj' : k ≠ j := by omega
  have hk : k < n := by omega
  have ba : Bn 1000 a := bnq (by have := h.aq; omega) hq
  have bb := bnq h.bb hq
  have bc := bnq h.bc hq
  have bd := bnq h.bd hq
  obtain ⟨V1, e1, hV1⟩ := clear_down_ok (x := x) hkj hjn hn h.a0 ba bb bc bd hV (by omega)
  have AC1 := h.clear
  have bc' : Bn 1000 (c.fmod a) := Nat.lt_trans AC1.hc ba
  have bb' : Bn 1000 (b.fmod a) := Nat.lt_trans AC1.hb ba
  have bd1 : Bn 1000 (d - c.fdiv a * b) := by
    have h1 : (c.fdiv a).natAbs < 2 ^ 451 := by
      have := natAbs_fdiv_le c a
      have := h.bc
      have : (2 : Nat) ^ 451 = 2 * 2 ^ 450 := by rw [Nat.pow_succ, Nat.mul_comm]
      omega
    have h2 : b.natAbs < 2 ^ 451 := by
      have := h.bb
      have : (2 : Nat) ^ 451 = 2 * 2 ^ 450 := by rw [Nat.pow_succ, Nat.mul_comm]
      omega
    have h3 : Bn 902 (c.fdiv a * b) := Bn.mul (n := 451) (m := 451) h1 h2
    have h4 : Bn 902 d := by
      have : d.natAbs < 2 ^ 451 := by
        have := h.bd
        have : (2 : Nat) ^ 451 = 2 * 2 ^ 450 := by rw [Nat.pow_succ, Nat.mul_comm]
        omega
      exact Bn.mono (n := 451) this (by decide)
    have := Bn.add h4 h3.neg
    exact Bn.mono (by rw [← Int.sub_eq_add_neg] at this; exact this) (by decide)
  obtain ⟨V2, e2, hV2⟩ := clear_over_ok (x := x) hkj hjn hn h.a0 ba bb bc' bd1 hV1 (by omega)
  unfold m_Form_settle_b1
  refine GoO.seq1 (ometh_ok (by decide) (xs := [.int k]) (by simp) e1) ?_
  unfold m_Form_settle_b1_1
  refine GoO.seq1 (ometh_ok (by decide) (xs := [.int k]) (by simp) e2) ?_
  obtain ⟨b', hb'⟩ : ∃ b', b' = b.fmod a := ⟨_, rfl⟩
  obtain ⟨c', hc'⟩ : ∃ c', c' = c.fmod a := ⟨_, rfl⟩
  obtain ⟨d', hd'⟩ : ∃ d', d' = zz a b c d := ⟨_, rfl⟩
  have hdv' : ∀ m : Int, (m ∣ a ∧ m ∣ b' ∧ m ∣ c' ∧ m ∣ d') ↔ (m ∣ x k ∧ m ∣ x j) := fun m => by
    rw [hb', hc', hd']; exact (dv_clear a b c d m).trans (h.dv m)
  rw [show d - c.fdiv a * b - b.fdiv a * c.fmod a = zz a b c d from rfl] at AC1
  rw [show d - c.fdiv a * b - b.fdiv a * c.fmod a = zz a b c d from rfl]
  rw [← hb', ← hc', ← hd'] at AC1 ⊢
  have hdle := AC1.dle
  have haq := h.aq
  have hAb := AC1.hb
  have hAc := AC1.hc
  -- the pair as it stands now is a head, too
  have H2 : Hd n k j a b' c' d' x := h.next h.a0 (Nat.le_refl _) AC1.det hdv' (by omega) (by omega) hdle
  obtain ⟨cl, e3, hcl⟩ := is_clear_ok (R := blk k j a b' c' d' x) (V := V2) hk hn
  have hcl2 : cl = true ↔ b' = 0 ∧ c' = 0 := by
    rw [hcl]
    constructor
    · intro z
      obtain ⟨z1, z2⟩ := z j hkj hjn
      rw [blk_jk hkj'] at z1
      rw [blk_kj hkj'] at z2
      exact ⟨z2, z1⟩
    · rintro ⟨z1, z2⟩ r h1 h2
      by_cases hr : r = j
      · subst hr; rw [blk_jk hkj', blk_kj hkj']; exact ⟨z2, z1⟩
      · exact ⟨blk_dn (by omega) hr, blk_ov (by omega) hr⟩
  unfold m_Form_settle_b1_2
  have ecl : (wNot (tOf (eMeth "Form" "is_clear" f_Form_is_clear (eVar 0) (aCons (eVar 1) aNil)))) [frm n (blk k j a b' c' d' x) V2, .int k, od] = some (!cl) := by
    rw [wNot_s, tOf_s, emeth_frm (by decide) (xs := [.int k]) (by simp) e3]
    simp
  by_cases hclear : b' = 0 ∧ c' = 0
  · -- clear
    have hct := hcl2.mpr hclear
    subst hct
    refine GoO.no (by rw [ecl]; rfl) ?_
    obtain ⟨zb, zc⟩ := hclear
    have eR : blk k j a b' c' d' x = dg (up2 x k j a d') := by rw [zb, zc, blk_dg hkj']; rfl
    obtain ⟨F, hal⟩ := H2.fin zb zc
    rw [zb, zc] at H2
    have hkk : dg (up2 x k j a d') k k = a := by simp [dg, up2]
    obtain ⟨o1, e4, ho⟩ := odd_row_ok (R := blk k j a b' c' d' x) (V := V2) hk hn (by rw [blk_kk]; exact h.a0)
    rw [eR] at e4 ho ⊢
    rw [hkk] at ho
    unfold m_Form_settle_c2
    refine GoO.seq1 (ρ' := [frm n (dg (up2 x k j a d')) V2, .int k, o1]) ?_ ?_
    · rw [sSet_s, emeth_frm (by decide) (xs := [.int k]) (by simp) e4]
      rfl
    · unfold m_Form_settle_c2_1
      rcases ho with ⟨rfl, hall⟩ | ⟨i, rfl, hki, hin, s, hks, hsn, hnd⟩
      · refine GoO.yes (by simp [dIsN, D.isNon]) (GoO.ret ⟨fun ρ' z => (nomatch z), .inl ⟨_, V2, _, rfl, hV2.mono (by omega), F, fun r h1 h2 => ?_⟩⟩)
        have := hall r r h1 h2 h1 h2
        have e5 : dg (up2 x k j a d') r r = up2 x k j a d' r := by simp [dg]
        rw [e5] at this
        have e6 : up2 x k j a d' k = a := by simp [up2]
        rw [e6]
        exact this
      · refine GoO.no (by simp [dIsN, D.isNon]) ?_
        have hsi : s = i := by
          by_cases z : i = s
          · exact z.symm
          · exact absurd (by simp [dg, z]) hnd
        subst hsi
        have e5 : dg (up2 x k j a d') s s = up2 x k j a d' s := by simp [dg]
        rw [e5] at hnd
        unfold m_Form_settle_c3
        have hx1 : ∀ r, r < n → Bn 1000 (up2 x k j a d' r) := fun r hr => by
          have H3 := H2.odd hki hin
          by_cases z : r = k
          · have : up2 x k j a d' r = a := by simp [up2, z]
            rw [this]; exact ba
          · have h1 := gp_two (x := up2 x k j a d') (Ne.symm z) hk hr F.nz
            have h2 := H3.pq
            have h3 : 1 * (up2 x k j a d' r).natAbs ≤ (up2 x k j a d' k).natAbs * (up2 x k j a d' r).natAbs := Nat.mul_le_mul_right _ (by have := F.nz k hk; omega)
            have : (up2 x k j a d' r).natAbs < 2 ^ 450 := by omega
            exact Bn.mono (n := 450) this (by decide)
        obtain ⟨V3, e6, hV3⟩ := add_down_ok (R := dg (up2 x k j a d')) (i := k) (j := s) (t := 1) hk hin (by unfold Bn; exact Nat.one_lt_two_pow (by decide)) (fun q hq2 => by
          unfold dg
          split
          · exact (hx1 s hin).mono (by decide)
          · exact Bn.zero) hV2 (by omega)
        rw [odd_blk (by omega : k ≠ s)] at e6
        refine GoO.seq1 (ometh_ok (by decide) (xs := [.int k, .int s, .int 1]) (by simp) e6) (GoO.nil (.inr ⟨s, a, up2 x k j a d' s, 0, up2 x k j a d' s, up2 x k j a d', V3, .int s, .inl ?_, hV3.mono (by omega), H2.odd hki hin, F, ?_⟩))
        · have : up2 x k j a d' k = a := by simp [up2]
          rw [this]
        · have : zz a (up2 x k j a d' s) 0 (up2 x k j a d' s) = up2 x k j a d' s := by simp [zz]
          rw [this, zb, zc]
          have e7 : (0 : Int).fmod a = 0 := by simp
          rw [e7]
          exact pot_odd h.a0 hnd ((H2.odd hki hin).le s hki hin)
  · -- not clear
    have hcf : cl = false := by
      cases cl with
      | false => rfl
      | true => exact absurd (hcl2.mp rfl) hclear
    subst hcf
    refine GoO.yes (by rw [ecl]; rfl) ?_
    obtain ⟨o1, e4, ho⟩ := least_ok (R := blk k j a b' c' d' x) (V := V2) (by omega : k ≤ n) hn
    unfold m_Form_settle_c1
    have eval : ∀ (p q : Nat) (V3 : Vs) (R3 : Mx), o1 = .tup [.int p, .int q] → f_Form_bring [frm n (blk k j a b' c' d' x) V2, .int k, .tup [.int p, .int q]] = some (frm n R3 V3) → sOMeth 0 "Form" "bring" f_Form_bring (aCons (eVar 1) (aCons (eMeth "Form" "least_from" f_Form_least_from (eVar 0) (aCons (eVar 1) aNil)) aNil)) [frm n (blk k j a b' c' d' x) V2, .int k, od] = some (.nx [frm n R3 V3, .int k, od]) := fun p q V3 R3 ho e5 => by
      subst ho
      refine ometh_ok (by decide) (xs := [.int k, .tup [.int p, .int q]]) ?_ e5
      rw [aCons_s, aCons_s, emeth_frm (by decide) (xs := [.int k]) (by simp) e4]
      rfl
    rcases least_pair hkj hjn h.a0 hAb hAc H2.le hclear ho with ⟨rfl, h0, h1, h2⟩ | ⟨rfl, h0, h1, h2⟩ | ⟨rfl, h0, h1, h2⟩
    · obtain ⟨V3, e5, hV3⟩ := bring_ok (R := blk k j a b' c' d' x) hk hk hjn hV2
      rw [swpRow_self, swpCol_blk hkj'] at e5
      refine GoO.seq1 (eval k j V3 _ rfl e5) (GoO.ct ⟨fun ρ' z => (nomatch z), .inr ⟨j, b', a, d', c', x, V3, od, .inr rfl, hV3.mono (by omega), ?_, Fi.refl h.nz, ?_⟩⟩)
      · exact H2.next h0 (by omega) (by rw [← AC1.det, ← Int.natAbs_neg]; congr 1; grind) (fun m => by rw [← hdv']; grind) (by omega) (by omega) (by omega)
      · exact pot_b AC1 h0 h1 h2 _
    · obtain ⟨V3, e5, hV3⟩ := bring_ok (R := blk k j a b' c' d' x) hk hjn hk hV2
      rw [swpRow_blk hkj', swpCol_self] at e5
      refine GoO.seq1 (eval j k V3 _ rfl e5) (GoO.ct ⟨fun ρ' z => (nomatch z), .inr ⟨j, c', d', a, b', x, V3, od, .inr rfl, hV3.mono (by omega), ?_, Fi.refl h.nz, ?_⟩⟩)
      · exact H2.next h0 (by omega) (by rw [← AC1.det, ← Int.natAbs_neg]; congr 1; grind) (fun m => by rw [← hdv']; grind) (by omega) (by omega) (by omega)
      · exact pot_c AC1 h0 h1 h2 _
    · obtain ⟨V3, e5, hV3⟩ := bring_ok (R := blk k j a b' c' d' x) hk hjn hjn hV2
      rw [swpRow_blk hkj', swpCol_blk hkj'] at e5
      have hda : d'.natAbs ≤ a.natAbs := by
        by_cases q : b' = 0
        · have := h2 fun q2 => hclear ⟨q, q2⟩; omega
        · have := h1 q; omega
      have H3 : Hd n k j d' c' b' a x := H2.next h0 hda (by rw [← AC1.det]; congr 1; grind) (fun m => by rw [← hdv']; grind) (by omega) (by omega) (by omega)
      refine GoO.seq1 (eval j j V3 _ rfl e5) (GoO.ct ⟨fun ρ' z => (nomatch z), .inr ⟨j, d', c', b', a, x, V3, od, .inr rfl, hV3.mono (by omega), H3, Fi.refl h.nz, ?_⟩⟩)
      exact pot_d AC1 hclear h0 h1 h2 H3.clear
theorem settle_loop (hn : n ≤ 1000) : ∀ (N m : Nat) {j e : Nat} {a b c d : Int} {x : Nat → Int} {V : Vs} {od : D}, Hd n k j a b c d x → pot a (b.fmod a) (c.fmod a) (zz a b c d) ≤ N → V.ok n e → e + 3072 * (N + 1) ≤ 134217728 → N + 1 ≤ m →
    ∃ y V' od', whileO (tOf (eC (.bl true))) m_Form_settle_b1 m [frm n (blk k j a b c d x) V, .int k, od] = some (.rt [frm n (dg y) V', .int k, od']) ∧ V'.ok n (e + 3072 * (N + 1)) ∧ Fi n k x y ∧ ∀ r, k < r → r < n → y k ∣ y r := by
  intro N
  induction N with
  | zero =>
    intro m j e a b c d x V od h hp hV he hm
    obtain ⟨m', rfl⟩ : ∃ m', m = m' + 1 := ⟨m - 1, by omega⟩
    obtain ⟨o, e1, ho⟩ := settle_turn (od := od) hn h hV (by omega)
    have e0 : ∀ ρ : List D, (tOf (eC (.bl true))) ρ = some true := fun ρ => by simp
    rcases ho with ⟨y, V', od', rfl, hV', F, hd⟩ | ⟨j1, a1, b1, c1, d1, x1, V', od', ho, hV', H1, F, hlt⟩
    · refine ⟨y, V', od', ?_, hV'.mono (by omega), F, hd⟩
      unfold whileO
      rw [e0, e1]
    · omega
  | succ N ih =>
    intro m j e a b c d x V od h hp hV he hm
    obtain ⟨m', rfl⟩ : ∃ m', m = m' + 1 := ⟨m - 1, by omega⟩
    obtain ⟨o, e1, ho⟩ := settle_turn (od := od) hn h hV (by omega)
    have e0 : ∀ ρ : List D, (tOf (eC (.bl true))) ρ = some true := fun ρ => by simp
    rcases ho with ⟨y, V', od', rfl, hV', F, hd⟩ | ⟨j1, a1, b1, c1, d1, x1, V', od', ho, hV', H1, F, hlt⟩
    · refine ⟨y, V', od', ?_, hV'.mono (by omega), F, hd⟩
      unfold whileO
      rw [e0, e1]
    · obtain ⟨y, V2, od2, e2, hV2, F2, hd⟩ := ih m' (od := od') H1 (by omega) hV' (by omega) (by omega)
      refine ⟨y, V2, od2, ?_, hV2.mono (by omega), F.trans F2, hd⟩
      unfold whileO
      rw [e0, e1]
      rcases ho with rfl | rfl
      · exact e2
      · exact e2
end
end K42

/-! ## K42j -/
/-! k42: settle from a diagonal table; run -/
namespace K42
open PySem PySem.Spec PyProof.Rows L2 VV VP
section
variable {n k j e : Nat} {a b c d : Int} {x : Nat → Int} {V : Vs} {od : D} {R : Mx}
theorem clear_down_last (hn : n ≤ 1000) (hk : k + 1 = n) : f_Form_clear_down [frm n R V, .int k] = some (frm n R V) := by
  unfold f_Form_clear_down
  refine semO_ok (by simp) ?_
  show GoO m_Form_clear_down [frm n R V, .int k, .non, .non] _
  unfold m_Form_clear_down
  have e0 : iRng (aCons (eP dAdd (aCons (eVar 1) (aCons (eC (.int 1)) aNil))) (aCons (eChk D.isFlat (eFld "Form" "high" (eVar 0))) aNil)) [frm n R V, .int k, .non, .non] = some [] := by
    rw [rng_kn (k := k + 1) (n := n) (by simp [fd_high, Option.filter_some]) (by omega) hn]
    have : n - (k + 1) = 0 := by omega
    rw [this]; rfl
  refine GoO.seq1 (ρ' := [frm n R V, .int k, .non, .non]) ?_ (GoO.nil ⟨_, .inl rfl, rfl⟩)
  rw [sFor_s, e0]
  rfl
theorem clear_over_last (hn : n ≤ 1000) (hk : k + 1 = n) : f_Form_clear_over [frm n R V, .int k] = some (frm n R V) := by
  unfold f_Form_clear_over
  refine semO_ok (by simp) ?_
  show GoO m_Form_clear_over [frm n R V, .int k, .non, .non] _
  unfold m_Form_clear_over
  have e0 : iRng (aCons (eP dAdd (aCons (eVar 1) (aCons (eC (.int 1)) aNil))) (aCons (eChk D.isFlat (eFld "Form" "wide" (eVar 0))) aNil)) [frm n R V, .int k, .non, .non] = some [] := by
    rw [rng_kn (k := k + 1) (n := n) (by simp [fd_wide, Option.filter_some]) (by omega) hn]
    have : n - (k + 1) = 0 := by omega
    rw [this]; rfl
  refine GoO.seq1 (ρ' := [frm n R V, .int k, .non, .non]) ?_ (GoO.nil ⟨_, .inl rfl, rfl⟩)
  rw [sFor_s, e0]
  rfl
theorem settle_ok (hn : n ≤ 1000) (hk : k < n) (hx : ∀ r, r < n → x r ≠ 0) (hl : ∀ r, k < r → r < n → (x k).natAbs ≤ (x r).natAbs) (hpq : gp x 0 n < 2 ^ 450) (hV : V.ok n e) (he : e + 5532672 ≤ 134217728) :
    ∃ y V', f_Form_settle [frm n (dg x) V, .int k] = some (frm n (dg y) V') ∧ V'.ok n (e + 5532672) ∧ Fi n k x y ∧ ∀ r, k < r → r < n → y k ∣ y r := by
  unfold f_Form_settle
  suffices h : ∃ D0, semO 3 [.flat] m_Form_settle [frm n (dg x) V, .int k] = some D0 ∧ ∃ y V', D0 = frm n (dg y) V' ∧ V'.ok n (e + 5532672) ∧ Fi n k x y ∧ ∀ r, k < r → r < n → y k ∣ y r by
    obtain ⟨d, h1, y, V', rfl, h2⟩ := h
    exact ⟨y, V', h1, h2⟩
  refine semO_ex (by simp) ?_
  show GoO m_Form_settle [frm n (dg x) V, .int k, .non] _
  unfold m_Form_settle
  by_cases hk1 : k + 1 < n
  · have hkj : k ≠ k + 1 := by omega
    have eR : dg x = blk k (k + 1) (x k) 0 0 (x (k + 1)) x := by
      rw [blk_dg hkj]
      congr 1
      funext r
      split
      · rename_i h; rw [h]
      · split
        · rename_i h; rw [h]
        · rfl
    have H : Hd n k (k + 1) (x k) 0 0 (x (k + 1)) x := by
      refine ⟨by omega, hk1, hx k hk, hx, ?_, ?_, fun m => ?_, hl, by simp, by simp, ?_, hpq⟩
      · rw [← Int.natAbs_mul]; congr 1; simp
      · exact Nat.mul_le_mul_left _ (hl _ (by omega) hk1)
      · exact ⟨fun z => ⟨z.1, z.2.2.2⟩, fun z => ⟨z.1, Int.dvd_zero _, Int.dvd_zero _, z.2⟩⟩
      · have : 1 * (x (k + 1)).natAbs ≤ (x k).natAbs * (x (k + 1)).natAbs := Nat.mul_le_mul_right _ (by have := hx k hk; omega)
        omega
    have hp : pot (x k) ((0 : Int).fmod (x k)) ((0 : Int).fmod (x k)) (zz (x k) 0 0 (x (k + 1))) ≤ 1800 := by
      have e7 : (0 : Int).fmod (x k) = 0 := by simp
      rw [e7]
      have ha := H.aq
      have hq := H.q
      have h1 : (x k).natAbs * (x k).natAbs < 2 ^ 450 * 2 ^ 450 := Nat.mul_lt_mul'' (by omega) (by omega)
      have h2 : ((x k).natAbs * (x k).natAbs).log2 < 900 := (Nat.log2_lt (Nat.ne_of_gt (Nat.mul_pos (by have := hx k hk; omega) (by have := hx k hk; omega)))).mpr (by rw [show (2 : Nat) ^ 900 = 2 ^ 450 * 2 ^ 450 by rw [← Nat.pow_add]]; exact h1)
      simp only [pot, wt, ind, and_self, if_true]
      omega
    obtain ⟨y, V', od', e1, hV', F, hd⟩ := settle_loop (k := k) hn 1800 fuel (od := .non) H hp hV (by omega) (by show 1801 ≤ 1000000000; omega)
    rw [← eR] at e1
    exact ⟨_, e1, _, _, .inr rfl, rfl, y, V', rfl, hV'.mono (by omega), F, hd⟩
  · have hkn : k + 1 = n := by omega
    refine ⟨.rt [frm n (dg x) V, .int k, .non], ?_, _, _, .inr rfl, rfl, x, V, rfl, hV.mono (by omega), Fi.refl hx, fun r h1 h2 => by omega⟩
    have e1 : m_Form_settle_b1 [frm n (dg x) V, .int k, .non] = some (.rt [frm n (dg x) V, .int k, .non]) := by
      have : GoO m_Form_settle_b1 [frm n (dg x) V, .int k, .non] fun o => o = .rt [frm n (dg x) V, .int k, .non] := by
        unfold m_Form_settle_b1
        refine GoO.seq1 (ometh_ok (by decide) (xs := [.int k]) (by simp) (clear_down_last hn hkn)) ?_
        unfold m_Form_settle_b1_1
        refine GoO.seq1 (ometh_ok (by decide) (xs := [.int k]) (by simp) (clear_over_last hn hkn)) ?_
        unfold m_Form_settle_b1_2
        obtain ⟨cl, e3, hcl⟩ := is_clear_ok (R := dg x) (V := V) hk hn
        have hct : cl = true := hcl.mpr fun r h1 h2 => by omega
        subst hct
        refine GoO.no (by rw [wNot_s, tOf_s, emeth_frm (by decide) (xs := [.int k]) (by simp) e3]; simp) ?_
        obtain ⟨o1, e4, ho⟩ := odd_row_ok (R := dg x) (V := V) hk hn (by simp [dg]; exact hx k hk)
        have : o1 = .non := by
          rcases ho with ⟨h, _⟩ | ⟨r, _, h1, h2, _⟩
          · exact h
          · omega
        subst this
        unfold m_Form_settle_c2
        refine GoO.seq1 (ρ' := [frm n (dg x) V, .int k, .non]) ?_ ?_
        · rw [sSet_s, emeth_frm (by decide) (xs := [.int k]) (by simp) e4]
          rfl
        · unfold m_Form_settle_c2_1
          exact GoO.yes (by simp [dIsN, D.isNon]) (GoO.ret ⟨fun ρ' z => (nomatch z), rfl⟩)
      obtain ⟨o, h1, rfl⟩ := this
      exact h1
    show whileO _ _ fuel _ = _
    have : fuel = 999999999 + 1 := rfl
    rw [this]
    unfold whileO
    have e0 : ∀ ρ : List D, (tOf (eC (.bl true))) ρ = some true := fun ρ => by simp
    rw [e0, e1]
end
/-! ### run -/
structure RunI (n k : Nat) (Z : Nat → Nat) (x : Nat → Int) : Prop where
  nz : ∀ r, r < n → x r ≠ 0
  gp : ∀ t, gp x t n = Z t
  pos : ∀ i, i < k → 0 < x i
  ch : ∀ i r, i < k → i < r → r < n → x i ∣ x r
theorem forO_inv {t : Tv} {b : Svo} {α : Type} (x : α → D) : ∀ (l : List α) (R : Nat → List D → Prop) (ρ : List D), R 0 ρ →
    (∀ i a ρ, l[i]? = some a → R i ρ → ∃ ρ1, t (x a) ρ = some ρ1 ∧ GoO b ρ1 fun o => ∃ ρ2, (o = .nx ρ2 ∨ o = .ct ρ2) ∧ R (i + 1) ρ2) → ∃ ρ', forO t b (l.map x) ρ = some (.nx ρ') ∧ R l.length ρ'
  | [], R, ρ, h, _ => ⟨ρ, rfl, h⟩
  | a :: r, R, ρ, h, k => by
    obtain ⟨ρ1, h1, o, h2, ρ2, h3, h4⟩ := k 0 a ρ rfl h
    obtain ⟨ρ', h5, h6⟩ := forO_inv x r (fun i => R (i + 1)) ρ2 h4 fun i b ρ hb hR => k (i + 1) b ρ hb hR
    refine ⟨ρ', ?_, h6⟩
    show forO t b (x a :: r.map x) ρ = _
    unfold forO
    rw [h1]
    dsimp only
    rw [h2]
    rcases h3 with rfl | rfl <;> exact h5
section
variable {n k e : Nat} {x : Nat → Int} {V : Vs} {Z : Nat → Nat}
theorem sw_low {i r : Nat} (h : r < k) (hi : k ≤ i) : sw k i r = r := by unfold sw; rw [if_neg (by omega), if_neg (by omega)]
theorem gp_sw {i t : Nat} (hk : k < n) (hi : i < n) (hx : ∀ r, r < n → x r ≠ 0) : gp (fun r => x (sw k i r)) t n = gp x t n := by
  by_cases h : k = i
  · subst h
    have : (fun r => x (sw k k r)) = x := by funext r; rw [sw_self]
    rw [this]
  · have e : (fun r => x (sw k i r)) = up2 x k i (x i) (x k) := by
      funext r
      unfold sw up2
      by_cases h1 : r = i
      · have h2 : ¬ r = k := by omega
        simp [h1, Ne.symm h]
      · by_cases h2 : r = k
        · subst h2; simp [h]
        · simp [h1, h2]
    rw [e]
    exact gp_swap h hk hi hx (Nat.mul_comm _ _)
theorem run_turn (hn : n ≤ 1000) (hk : k < n) (hI : RunI n k Z x) (hZ : Z 0 < 2 ^ 450) (hV : V.ok n e) (he : e + 5533696 ≤ 134217728) {od : D} :
    GoO m_Form_run_b1 [frm n (dg x) V, .int k, od] fun o => ∃ y V' od', o = .nx [frm n (dg y) V', .int k, od'] ∧ V'.ok n (e + 5533696) ∧ RunI n (k + 1) Z y := by
  unfold m_Form_run_b1
  obtain ⟨o1, e1, ho⟩ := least_ok (R := dg x) (V := V) (by omega : k ≤ n) hn
  have hd : ∀ r, dg x r r = x r := fun r => by simp [dg]
  rcases ho with ⟨rfl, hz⟩ | ⟨i, i', rfl, hs, hv, hle, _⟩
  · exact absurd (by have := hz k k (by unfold Sq; omega); rwa [hd] at this) (hI.nz k hk)
  have hii : i = i' := by
    by_cases z : i = i'
    · exact z
    · exact absurd (by simp [dg, z]) hv
  subst hii
  unfold Sq at hs
  have hi : i < n := by omega
  refine GoO.seq1 (ρ' := [frm n (dg x) V, .int k, .tup [.int i, .int i]]) ?_ ?_
  · rw [sSet_s, emeth_frm (by decide) (xs := [.int k]) (by simp) e1]
    rfl
  unfold m_Form_run_b1_1
  refine GoO.no (by simp [dIsN, D.isNon]) ?_
  unfold m_Form_run_c1
  obtain ⟨V1, e2, hV1⟩ := bring_ok (R := dg x) hk hi hi hV
  rw [bring_dg] at e2
  refine GoO.seq1 (ometh_ok (by decide) (xs := [.int k, .tup [.int i, .int i]]) (by simp) e2) ?_
  obtain ⟨x1, hx1⟩ : ∃ x1 : Nat → Int, x1 = fun r => x (sw k i r) := ⟨_, rfl⟩
  rw [← hx1]
  have x1k : x1 k = x i := by
    rw [hx1]
    show x (sw k i k) = x i
    congr 1
    unfold sw
    split <;> first | omega | simp
  have x1nz : ∀ r, r < n → x1 r ≠ 0 := fun r hr => by rw [hx1]; exact hI.nz _ (sw_lt hk hi hr)
  have sge : ∀ r, k ≤ r → k ≤ sw k i r := fun r hr => by unfold sw; split; omega; split <;> omega
  have x1l : ∀ r, k < r → r < n → (x1 k).natAbs ≤ (x1 r).natAbs := fun r h1 h2 => by
    rw [x1k, hx1]
    have := hle (sw k i r) (sw k i r) ⟨sge r (by omega), sw_lt hk hi h2, sge r (by omega), sw_lt hk hi h2⟩ (by rw [hd]; exact hI.nz _ (sw_lt hk hi h2))
    rw [hd, hd] at this
    exact this
  have x1gp : ∀ t, gp x1 t n = Z t := fun t => by rw [hx1, gp_sw hk hi hI.nz, hI.gp]
  obtain ⟨y, V2, e3, hV2, F, hdv⟩ := settle_ok hn hk x1nz x1l (by rw [x1gp]; exact hZ) hV1 (by omega)
  unfold m_Form_run_c1_1
  refine GoO.seq1 (ometh_ok (by decide) (xs := [.int k]) (by simp) e3) ?_
  have low : ∀ r, r < k → y r = x r := fun r hr => by rw [F.lo r hr, hx1]; show x (sw k i r) = x r; rw [sw_low hr (by omega)]
  have ygp : ∀ t, gp y t n = Z t := fun t => by rw [F.gp, x1gp]
  have ydv : ∀ i r, i < k → i < r → r < n → y i ∣ y r := fun q r h1 h2 h3 => by
    rw [low q h1]
    by_cases hr : r < k
    · rw [low r hr]; exact hI.ch q r h1 h2 h3
    · refine F.dv (x q) (fun r' h4 h5 => ?_) r (by omega) h3
      rw [hx1]
      exact hI.ch q _ h1 (by have := sge r' h4; omega) (sw_lt hk hi h5)
  have ybn : Bn 2000 (y k) := by
    have : (y k).natAbs ≤ gp y 0 n := by
      have := gp_up (x := y) (t := 0) (a := 1) hk
      simp only [Nat.gcd_zero_right] at this
      have p : 0 < gp (up y k 1) 0 n := gp_pos fun r hr => by
        unfold up
        split
        · decide
        · exact F.nz r hr
      have q : 1 * (y k).natAbs ≤ gp (up y k 1) 0 n * (y k).natAbs := Nat.mul_le_mul_right _ p
      simp at this
      omega
    rw [ygp] at this
    exact Bn.mono (n := 450) (Nat.lt_of_le_of_lt this hZ) (by decide)
  unfold m_Form_run_c1_2
  have et : (tOf (eP dLt (aCons (eChk D.isFlat (eP dIdx (aCons (eP dIdx (aCons (eFld "Form" "rows" (eVar 0)) (aCons (eVar 1) aNil))) (aCons (eVar 1) aNil)))) (aCons (eC (.int 0)) aNil)))) [frm n (dg y) V2, .int k, .tup [.int i, .int i]] = some (decide (y k < 0)) := by
    simp only [tOf_s, eP_s, aCons_s, aNil_s, eVar_s, eC_s, List.getElem?_cons_zero, List.getElem?_cons_succ, ob_some, fd_rows, eChk_s, idx_tb hk, idx_row hk, Option.filter_some, fl_int, if_true, dB2_s, show dg y k k = y k by simp [dg], asB_s]
  refine GoO.seq (go_ite et (fun h => ?_) fun h => ?_)
  · obtain ⟨V3, e4, hV3⟩ := turn_down_ok (R := dg y) hk (fun c hc => by
      unfold dg
      split
      · exact ybn
      · exact Bn.zero) hV2 (by omega)
    rw [turn_dg] at e4
    refine ⟨_, ometh_ok (by decide) (xs := [.int k]) (by simp) e4, _, rfl, GoO.nil ⟨_, V3, _, rfl, hV3.mono (by omega), ?_⟩⟩
    refine ⟨fun r hr => ?_, fun t => ?_, fun q hq => ?_, fun q r h1 h2 h3 => ?_⟩
    · split
      · have := F.nz k hk; omega
      · exact F.nz r hr
    · rw [← ygp t]
      refine gp_congr fun r _ => ?_
      split
      · rename_i z; rw [z]; omega
      · rfl
    · split
      · omega
      · rw [low q (by omega)]; exact hI.pos q (by omega)
    · by_cases hqk : q = k
      · subst hqk
        rw [if_pos rfl, if_neg (by omega)]
        exact Int.neg_dvd.mpr (hdv r h2 h3)
      · rw [if_neg hqk]
        have := ydv q r (by omega) h2 h3
        split
        · rename_i z; subst z; exact Int.dvd_neg.mpr this
        · exact this
  · rw [go_nil]
    refine ⟨_, rfl, GoO.nil ⟨y, V2, _, rfl, hV2.mono (by omega), F.nz, ygp, fun q hq => ?_, fun q r h1 h2 h3 => ?_⟩⟩
    · by_cases hqk : q = k
      · subst hqk
        have := F.nz q hk
        omega
      · rw [low q (by omega)]; exact hI.pos q (by omega)
    · by_cases hqk : q = k
      · subst hqk; exact hdv r h2 h3
      · exact ydv q r (by omega) h2 h3
theorem run_ok (hn : n ≤ 20) (hx : ∀ r, r < n → x r ≠ 0) (hpq : gp x 0 n < 2 ^ 450) (hV : V.ok n 1) :
    ∃ y V', f_Form_run [frm n (dg x) V] = some (frm n (dg y) V') ∧ RunI n n (fun t => gp x t n) y := by
  unfold f_Form_run
  suffices h : ∃ D0, semO 3 [] m_Form_run [frm n (dg x) V] = some D0 ∧ ∃ y V', D0 = frm n (dg y) V' ∧ RunI n n (fun t => gp x t n) y by
    obtain ⟨d, h1, y, V', rfl, h2⟩ := h
    exact ⟨y, V', h1, h2⟩
  refine semO_ex (by simp) ?_
  show GoO m_Form_run [frm n (dg x) V, .non, .non] _
  unfold m_Form_run
  have e0 : iRng (aCons (eP dMin2 (aCons (eChk D.isFlat (eFld "Form" "high" (eVar 0))) (aCons (eChk D.isFlat (eFld "Form" "wide" (eVar 0))) aNil))) aNil) [frm n (dg x) V, .non, .non] = some ((List.range n).map fun i : Nat => D.int i) := by
    refine iR (n := n) ?_ (by omega)
    simp [fd_high, fd_wide, Option.filter_some, dMin2]
  obtain ⟨ρ', h1, h2⟩ := forO_inv (t := gN 1) (b := m_Form_run_b1) (fun i : Nat => D.int i) (List.range n) (fun k ρ => ∃ y V' x1 od, ρ = [frm n (dg y) V', x1, od] ∧ V'.ok n (1 + k * 5533696) ∧ RunI n k (fun t => gp x t n) y) [frm n (dg x) V, .non, .non] ⟨x, V, .non, .non, rfl, by simpa using hV, hx, fun _ => rfl, fun i hi => by omega, fun i r hi => by omega⟩ (fun k k' ρ hk => by
    rintro ⟨y, V', x1, od, rfl, hV', hI⟩
    obtain ⟨hkl, hk'⟩ := List.getElem?_eq_some_iff.mp hk
    simp only [List.length_range, List.getElem_range] at hkl hk'
    subst hk'
    refine ⟨[frm n (dg y) V', .int k, od], by simp, ?_⟩
    refine (run_turn (by omega) hkl hI hpq hV' (by omega)).mono ?_
    rintro o ⟨y2, V2, od2, rfl, hV2, hI2⟩
    refine ⟨_, .inl rfl, y2, V2, _, od2, rfl, hV2.mono (by omega), hI2⟩)
  simp only [List.length_range] at h2
  obtain ⟨y, V', x1, od, rfl, _, hI⟩ := h2
  refine ⟨.nx [frm n (dg y) V', x1, od], ?_, [frm n (dg y) V', x1, od], _, .inl rfl, rfl, y, V', rfl, hI⟩
  unfold oFor
  rw [e0, Option.bind_some, h1]
end
end K42

/-! ## K42k -/
/-! k42: the form made; plain_form, divisors, gathered of a diagonal table -/
namespace K42
open PySem PySem.Spec PyProof.Rows L2 VV VP
def idm : Mx := fun i j => if i = j then 1 else 0
section
variable {n : Nat} {M : Mx} {x : Nat → Int}
theorem fld0_ok {i : Nat} {c f : Str} {s : Ev} {ρ : List D} {ns : List Str} {ds : List D} {d : D} (h : s ρ = some d) (hi : ρ[i]? = some (.obj c ns ds)) (hf : f ∉ ns) (hl : ns.length < 1000) : sFld0 i c f s ρ = some (.nx (ρ.set i (.obj c (ns ++ [f]) (ds ++ [d])))) := by
  unfold sFld0
  rw [h, Option.bind_some, hi]
  dsimp only
  rw [if_pos ⟨rfl, hf, hl⟩]
theorem init_ok (hn : n ≤ 1000) : f_Form_init [.tup [.int n, .int n, tb n M]] = some (frm n M ⟨idm, idm, idm, idm⟩) := by
  obtain ⟨A, hA⟩ : ∃ A : D, A = .tup [.int n, .int n, tb n M] := ⟨_, rfl⟩
  have i0 : dIdx [A, .int 0] = some (.int n) := by rw [hA]; simp
  have i1 : dIdx [A, .int 1] = some (.int n) := by rw [hA]; simp
  have i2 : dIdx [A, .int 2] = some (tb n M) := by rw [hA]; simp
  rw [← hA]
  have u : f_unit [.int n] = some (.ret (encT n n idm)) := unit_ok n (by omega)
  have u2 : dIdx [encT n n idm, .int 2] = some (tb n idm) := enc2
  have eu : ∀ (o : D) (q : Int), (q = 0 ∨ q = 1) → (eP dIdx (aCons (eCall f_unit (aCons (eChk D.isFlat (eP dIdx (aCons (eVar 1) (aCons (eC (.int q)) aNil)))) aNil)) (aCons (eC (.int 2)) aNil))) [o, A, .non] = some (tb n idm) := fun o q hq => by
    have : dIdx [A, .int q] = some (.int n) := by rcases hq with rfl | rfl; exact i0; exact i1
    simp only [eP_s, eCall_s, aCons_s, aNil_s, eVar_s, eC_s, eChk_s, List.getElem?_cons_zero, List.getElem?_cons_succ, ob_some, this, Option.filter_some, fl_int, if_true, u, asRet_s, u2]
  have eq : ∀ (o : D) (q : Int), (q = 0 ∨ q = 1) → (eChk D.isFlat (eP dIdx (aCons (eVar 1) (aCons (eC (.int q)) aNil)))) [o, A, .non] = some (.int n) := fun o q hq => by
    have : dIdx [A, .int q] = some (.int n) := by rcases hq with rfl | rfl; exact i0; exact i1
    simp only [eP_s, aCons_s, aNil_s, eVar_s, eC_s, eChk_s, List.getElem?_cons_zero, List.getElem?_cons_succ, ob_some, this, Option.filter_some, fl_int, if_true]
  have er : ∀ o : D, (eLc (iLst (eP dIdx (aCons (eVar 1) (aCons (eC (.int 2)) aNil)))) (gN 2) cYes m_Form_init_e1) [o, A, .non] = some (tb n M) := fun o => by
    rw [eLc_s, iLst_s]
    simp only [eP_s, aCons_s, aNil_s, eVar_s, eC_s, List.getElem?_cons_zero, List.getElem?_cons_succ, ob_some, i2]
    unfold tb
    rw [asL_l, ob_some]
    have l := lcL_map (t := gN 2) (c := cYes) (e := m_Form_init_e1) (ρ := [o, A, .non]) (fun i : Nat => rowD n (M i)) (fun i => rowD n (M i)) (List.range n) fun i hi => ⟨_, gN_s, cYes_s, by
      show m_Form_init_e1 [o, A, rowD n (M i)] = _
      unfold m_Form_init_e1
      have : dList [rowD n (M i)] = some (rowD n (M i)) := rfl
      simp only [eP_s, aCons_s, aNil_s, eVar_s, eChk_s, List.getElem?_cons_zero, List.getElem?_cons_succ, ob_some, this]
      rw [Option.filter_some, if_pos]
      show D.isFlatL _ = true
      rw [isFlatL_all]; simp [D.isFlat]⟩
    exact congrArg (fun z => Option.ob z fun ys => some (D.lst ys)) l
  have key : m_Form_init [.obj "Form" [] [], A, .non] = some (.nx [frm n M ⟨idm, idm, idm, idm⟩, A, .non]) := by
    unfold m_Form_init
    rw [sSeq_s, fld0_ok (eq _ 0 (.inl rfl)) rfl (by decide) (by decide), seqO_nx]
    show m_Form_init_1 [.obj "Form" ["high"] [.int n], A, .non] = _
    unfold m_Form_init_1
    rw [sSeq_s, fld0_ok (eq _ 1 (.inr rfl)) rfl (by decide) (by decide), seqO_nx]
    show m_Form_init_2 [.obj "Form" ["high", "wide"] [.int n, .int n], A, .non] = _
    unfold m_Form_init_2
    rw [sSeq_s, fld0_ok (er _) rfl (by decide) (by decide), seqO_nx]
    show m_Form_init_3 [.obj "Form" ["high", "wide", "rows"] [.int n, .int n, tb n M], A, .non] = _
    unfold m_Form_init_3
    rw [sSeq_s, fld0_ok (eu _ 0 (.inl rfl)) rfl (by decide) (by decide), seqO_nx]
    show m_Form_init_4 [.obj "Form" ["high", "wide", "rows", "left"] [.int n, .int n, tb n M, tb n idm], A, .non] = _
    unfold m_Form_init_4
    rw [sSeq_s, fld0_ok (eu _ 0 (.inl rfl)) rfl (by decide) (by decide), seqO_nx]
    show m_Form_init_5 [.obj "Form" ["high", "wide", "rows", "left", "left_back"] [.int n, .int n, tb n M, tb n idm, tb n idm], A, .non] = _
    unfold m_Form_init_5
    rw [sSeq_s, fld0_ok (eu _ 1 (.inr rfl)) rfl (by decide) (by decide), seqO_nx]
    show m_Form_init_6 [.obj "Form" ["high", "wide", "rows", "left", "left_back", "right"] [.int n, .int n, tb n M, tb n idm, tb n idm, tb n idm], A, .non] = _
    unfold m_Form_init_6
    rw [fld0_ok (eu _ 1 (.inr rfl)) rfl (by decide) (by decide)]
    rfl
  unfold f_Form_init initSem
  rw [if_pos (by simp)]
  show (match m_Form_init [.obj "Form" [] [], A, .non] with | some (.nx ρ') => ρ'[0]? | _ => none) = _
  rw [key]
  rfl
theorem ometh1_ok {R : Mx} {V : Vs} {ρ : List D} {x0 z : D} {m : Str} {f : List D → Option D} (hm : m ∉ FN) (h3 : f [frm n R V] = some z) : sOMeth 1 "Form" m f aNil (x0 :: frm n R V :: ρ) = some (.nx (x0 :: z :: ρ)) := by
  have e : sOMeth 1 "Form" m f aNil (x0 :: frm n R V :: ρ) = if ("Form" : Str) = "Form" ∧ m ∉ FN then (aNil (x0 :: frm n R V :: ρ)).bind fun xs => (f (frm n R V :: xs)).map fun z => .nx ((x0 :: frm n R V :: ρ).set 1 z) else none := rfl
  rw [e, if_pos ⟨rfl, hm⟩]
  show (f [frm n R V]).map _ = _
  rw [h3]
  rfl
theorem fld1 {R : Mx} {V : Vs} {ρ : List D} {x0 d : D} {f : Str} (h : fldD f FN [.int n, .int n, tb n R, tb n V.L, tb n V.B, tb n V.T, tb n V.C] = some d) : eFld "Form" f (eVar 1) (x0 :: frm n R V :: ρ) = some d := fld_of (ns := FN) rfl h
theorem f1_left {R : Mx} {V : Vs} {ρ : List D} {x0 : D} : eFld "Form" "left" (eVar 1) (x0 :: frm n R V :: ρ) = some (tb n V.L) := fld1 (by rfl)
theorem f1_leftb {R : Mx} {V : Vs} {ρ : List D} {x0 : D} : eFld "Form" "left_back" (eVar 1) (x0 :: frm n R V :: ρ) = some (tb n V.B) := fld1 (by rfl)
theorem f1_right {R : Mx} {V : Vs} {ρ : List D} {x0 : D} : eFld "Form" "right" (eVar 1) (x0 :: frm n R V :: ρ) = some (tb n V.T) := fld1 (by rfl)
theorem f1_rightb {R : Mx} {V : Vs} {ρ : List D} {x0 : D} : eFld "Form" "right_back" (eVar 1) (x0 :: frm n R V :: ρ) = some (tb n V.C) := fld1 (by rfl)
theorem f1_rows {R : Mx} {V : Vs} {ρ : List D} {x0 : D} : eFld "Form" "rows" (eVar 1) (x0 :: frm n R V :: ρ) = some (tb n R) := fld1 (by rfl)
theorem plain_form_ok (hn : n ≤ 20) (hx : ∀ r, r < n → x r ≠ 0) (hpq : gp x 0 n < 2 ^ 450) :
    ∃ (y : Nat → Int) (a b c d : D), f_plain_form [.tup [.int n, .int n, tb n (dg x)]] = some (.ret (.tup [a, b, .tup [.int n, .int n, tb n (dg y)], c, d])) ∧ RunI n n (fun t => gp x t n) y := by
  obtain ⟨y, V, e1, hI⟩ := run_ok (V := ⟨idm, idm, idm, idm⟩) hn hx hpq (fun i j hi hj => by
    have : Bn 1 (idm i j) := by unfold idm Bn; split <;> decide
    exact ⟨this, this, this, this⟩)
  have e0 := init_ok (n := n) (M := dg x) (by omega)
  refine ⟨y, .tup [.int n, .int n, tb n V.L], .tup [.int n, .int n, tb n V.B], .tup [.int n, .int n, tb n V.T], .tup [.int n, .int n, tb n V.C], ?_, hI⟩
  have hA : ∃ A : D, A = .tup [.int n, .int n, tb n (dg x)] := ⟨_, rfl⟩
  obtain ⟨A, hA⟩ := hA
  have esl : (eChk D.isFlat (eSl (eChk D.isTup (eVar 0)) oNone (oSome (eC (.int 2))))) [A, frm n (dg y) V, .non, .non, .non, .non] = some (.tup [.int n, .int n]) := by
    have e4 : (some A).filter D.isTup = some (.tup [.int n, .int n, tb n (dg x)]) := by rw [hA]; rfl
    simp only [eChk_s, eSl_s, oNone_s, oSome_s, eVar_s, eC_s, List.getElem?_cons_zero, e4, ob_some]
    rw [dSl_t (by simp [HT.sIx])]
    have : cutG [D.int n, .int n, tb n (dg x)] none (some 2) = [.int n, .int n] := by simp [cutG, HT.sIx]
    rw [this]
    simp [Option.filter_some]
  unfold f_plain_form
  rw [← hA] at e0 ⊢
  refine fn_go (by simp) ?_
  show Go m_plain_form [A, .non, .non, .non, .non, .non] _
  unfold m_plain_form
  rw [go_seq]
  refine ⟨.nx [A, frm n (dg x) ⟨idm, idm, idm, idm⟩, .non, .non, .non, .non], ?_, ?_⟩
  · unfold sSetO eMake
    show (match f_Form_init [A] with | some (.obj c ns ds) => _ | _ => none) = _
    rw [e0]
    rfl
  rw [cont_nx]
  unfold m_plain_form_1
  rw [go_seq]
  refine ⟨_, ometh1_ok (by decide) e1, ?_⟩
  rw [cont_nx]
  unfold m_plain_form_2
  refine Go.asg (ρ' := [A, frm n (dg y) V, .int n, .int n, .non, .non]) esl (by simp) ?_
  show Go m_plain_form_3 [A, frm n (dg y) V, .int n, .int n, .non, .non] _
  unfold m_plain_form_3
  refine Go.set (d := .tup [.int n, .int n, tb n V.L]) (by simp only [eTup_s, aCons_s, aNil_s, eVar_s, List.getElem?_cons_succ, List.getElem?_cons_zero, ob_some, f1_left]) ?_
  show Go m_plain_form_4 [A, frm n (dg y) V, .int n, .int n, .tup [.int n, .int n, tb n V.L], .non] _
  unfold m_plain_form_4
  refine Go.set (d := .tup [.int n, .int n, tb n V.T]) (by simp only [eTup_s, aCons_s, aNil_s, eVar_s, List.getElem?_cons_succ, List.getElem?_cons_zero, ob_some, f1_right]) ?_
  show Go m_plain_form_5 [A, frm n (dg y) V, .int n, .int n, .tup [.int n, .int n, tb n V.L], .tup [.int n, .int n, tb n V.T]] _
  unfold m_plain_form_5
  exact Go.ret (by simp only [eTup_s, aCons_s, aNil_s, eVar_s, List.getElem?_cons_succ, List.getElem?_cons_zero, ob_some, f1_leftb, f1_rightb, f1_rows]) rfl
theorem divisors_ok (hn : n ≤ 20) (hx : ∀ r, r < n → x r ≠ 0) (hpq : gp x 0 n < 2 ^ 450) :
    ∃ y : Nat → Int, f_divisors [.tup [.int n, .int n, tb n (dg x)]] = some (.ret (.lst ((List.range n).map fun i => D.int (y i)))) ∧ RunI n n (fun t => gp x t n) y := by
  obtain ⟨y, a, b, c, d, e1, hI⟩ := plain_form_ok hn hx hpq
  refine ⟨y, ?_, hI⟩
  obtain ⟨A, hA⟩ : ∃ A : D, A = .tup [.int n, .int n, tb n (dg x)] := ⟨_, rfl⟩
  have i0 : dIdx [A, .int 0] = some (.int n) := by rw [hA]; simp
  have i1 : dIdx [A, .int 1] = some (.int n) := by rw [hA]; simp
  obtain ⟨B, hB⟩ : ∃ B : D, B = .tup [.int n, .int n, tb n (dg y)] := ⟨_, rfl⟩
  have i2 : dIdx [B, .int 2] = some (tb n (dg y)) := by rw [hB]; simp
  rw [← hA] at e1 ⊢
  rw [← hB] at e1
  unfold f_divisors
  refine fn_go (by simp) ?_
  show Go m_divisors [A, .non, .non, .non, .non] _
  unfold m_divisors
  refine Go.set (d := B) ?_ ?_
  · have : dIdx [.tup [a, b, B, c, d], .int 2] = some B := by simp
    simp only [eP_s, eCall_s, aCons_s, aNil_s, eVar_s, eC_s, List.getElem?_cons_zero, ob_some, e1, asRet_s, this]
  show Go m_divisors_1 [A, B, .non, .non, .non] _
  unfold m_divisors_1
  have er : iRng (aCons (eP dMin2 (aCons (eChk D.isFlat (eP dIdx (aCons (eVar 0) (aCons (eC (.int 0)) aNil)))) (aCons (eChk D.isFlat (eP dIdx (aCons (eVar 0) (aCons (eC (.int 1)) aNil)))) aNil))) aNil) [A, B, .non, .non, .non] = some ((List.range n).map fun i : Nat => D.int i) := by
    refine iR (n := n) ?_ (by omega)
    simp only [eP_s, aCons_s, aNil_s, eVar_s, eC_s, eChk_s, List.getElem?_cons_zero, ob_some, i0, i1, Option.filter_some, fl_int, if_true]
    simp [dMin2]
  have l := lcR (n := n) (i := 3) (ρ := [A, B, .non, .non, .non]) (e := m_divisors_e1) (fun i => D.int (y i)) fun i hi => by
    show m_divisors_e1 [A, B, .non, .int (i : Nat), .non] = _
    unfold m_divisors_e1
    simp only [eP_s, aCons_s, aNil_s, eVar_s, eC_s, eChk_s, List.getElem?_cons_zero, List.getElem?_cons_succ, ob_some, i2, idx_tb hi, idx_row hi, Option.filter_some, fl_int, if_true, dg]
  refine Go.set (d := .lst ((List.range n).map fun i => D.int (y i))) ?_ ?_
  · rw [eLc_s, er, ob_some, l]
    rfl
  show Go m_divisors_2 [A, B, .lst ((List.range n).map fun i => D.int (y i)), .non, .non] _
  unfold m_divisors_2
  have l2 := lcL_filter (t := gF (gN 4)) (c := tOf (eP dNe (aCons (eVar 4) (aCons (eC (.int 0)) aNil)))) (e := eVar 4) (ρ := [A, B, .lst ((List.range n).map fun i => D.int (y i)), .non, .non]) (fun i : Nat => D.int (y i)) (fun _ => true) (fun i => D.int (y i)) (List.range n) fun i hi => ⟨[A, B, .lst ((List.range n).map fun i => D.int (y i)), .non, .int (y i)], by simp, by
      have := hI.nz i (List.mem_range.mp hi)
      simp [ne0, this], fun _ => by simp⟩
  refine Go.ret (d := .lst ((List.range n).map fun i => D.int (y i))) ?_ rfl
  rw [eLc_s, iLst_s]
  simp only [eVar_s, List.getElem?_cons_zero, List.getElem?_cons_succ, ob_some, asL_l]
  rw [l2, List.filter_eq_self.mpr (by simp)]
  rfl
theorem gathered_raw (xs : List Int) (hn : xs.length ≤ 20) (h0 : ∀ z ∈ xs, z ≠ 0) (hpq : gp (fun i => xs.getD i 0) 0 xs.length < 2 ^ 450) :
    ∃ y : Nat → Int, f_gathered [.lst (xs.map D.int)] = some (.ret (.lst (((List.range xs.length).filter fun i => decide (1 < y i)).map fun i => D.int (y i)))) ∧ RunI xs.length xs.length (fun t => gp (fun i => xs.getD i 0) t xs.length) y := by
  obtain ⟨x, hx⟩ : ∃ x : Nat → Int, x = fun i => xs.getD i 0 := ⟨_, rfl⟩
  rw [← hx] at hpq ⊢
  obtain ⟨n, hnn⟩ : ∃ n, n = xs.length := ⟨_, rfl⟩
  rw [← hnn] at hpq hn ⊢
  have hxg : ∀ i, i < n → xs[i]? = some (x i) := fun i hi => by
    rw [hx]
    simp only [List.getD_eq_getElem?_getD]
    rw [List.getElem?_eq_getElem (by omega)]
    rfl
  have hxn : ∀ r, r < n → x r ≠ 0 := fun r hr => h0 _ (List.mem_of_getElem? (hxg r hr))
  obtain ⟨y, e1, hI⟩ := divisors_ok hn hxn hpq
  refine ⟨y, ?_, hI⟩
  obtain ⟨A, hA⟩ : ∃ A : D, A = .lst (xs.map D.int) := ⟨_, rfl⟩
  have hAl : dLen [A] = some (.int n) := by rw [hA, dLen_l, hnn]; simp
  have hAi : ∀ i, i < n → dIdx [A, .int (i : Nat)] = some (.int (x i)) := fun i hi => by rw [hA, dIdx_l, atI_n, List.getElem?_map, hxg i hi]; rfl
  rw [← hA]
  unfold f_gathered
  refine fn_go (by simp) ?_
  show Go m_gathered [A, .non, .non, .non, .non, .non] _
  unfold m_gathered
  refine Go.set (d := .int n) (by simp only [eP_s, aCons_s, aNil_s, eVar_s, List.getElem?_cons_zero, ob_some, hAl]) ?_
  show Go m_gathered_1 [A, .int n, .non, .non, .non, .non] _
  unfold m_gathered_1
  have l := lcR (n := n) (i := 3) (ρ := [A, .int n, .non, .non, .non, .non]) (e := m_gathered_e1) (fun i => rowD n (dg x i)) fun i hi => by
    show m_gathered_e1 [A, .int n, .non, .int (i : Nat), .non, .non] = _
    unfold m_gathered_e1
    have l := lcR (n := n) (i := 5) (ρ := [A, .int n, .non, .int (i : Nat), .non, .non]) (e := m_gathered_e2) (fun j => D.int (dg x i j)) fun j hj => by
      show m_gathered_e2 [A, .int n, .non, .int (i : Nat), .non, .int (j : Nat)] = _
      unfold m_gathered_e2
      have hb : Bn 450 (x i) := by
        have h1 := gp_up (x := x) (t := 0) (a := 1) hi
        simp only [Nat.gcd_zero_right] at h1
        have p : 0 < gp (up x i 1) 0 n := gp_pos fun r hr => by
          unfold up
          split
          · decide
          · exact hxn r hr
        have q : 1 * (x i).natAbs ≤ gp (up x i 1) 0 n * (x i).natAbs := Nat.mul_le_mul_right _ p
        simp at h1
        unfold Bn
        omega
      have em : ∀ z : Int, Bn 1 z → dMul [.int (x i), .int z] = some (.int (x i * z)) := fun z hz => dMul_s (Bn.cmul hb hz (by omega))
      simp only [eP_s, aCons_s, aNil_s, eVar_s, eChk_s, List.getElem?_cons_zero, List.getElem?_cons_succ, ob_some, hAi i hi, Option.filter_some, fl_int, if_true]
      by_cases hij : i = j
      · subst hij
        have := em 1 (by unfold Bn; decide)
        simp [dg, this]
      · have h2 : ¬ ((i : Int) = j) := by omega
        have := em 0 Bn.zero
        simp [dg, hij, h2, this]
    rw [eLc_s, iR (n := n) rfl (by omega), ob_some, l]
    rfl
  refine Go.set (d := tb n (dg x)) ?_ ?_
  · rw [eLc_s, iR (n := n) rfl (by omega), ob_some, l]
    rfl
  show Go m_gathered_2 [A, .int n, tb n (dg x), .non, .non, .non] _
  unfold m_gathered_2
  have e2 : (eChk D.kidsFlat (eCall f_divisors (aCons (eTup (aCons (eVar 1) (aCons (eVar 1) (aCons (eVar 2) aNil)))) aNil))) [A, .int n, tb n (dg x), .non, .non, .non] = some (.lst ((List.range n).map fun i => D.int (y i))) := by
    simp only [eChk_s, eCall_s, eTup_s, aCons_s, aNil_s, eVar_s, List.getElem?_cons_zero, List.getElem?_cons_succ, ob_some, e1, asRet_s]
    rw [Option.filter_some, if_pos]
    show D.isFlatL _ = true
    rw [isFlatL_all]; simp [D.isFlat]
  have l2 := lcL_filter (t := gF (gN 4)) (c := tOf (eP dGt (aCons (eVar 4) (aCons (eC (.int 1)) aNil)))) (e := eVar 4) (ρ := [A, .int n, tb n (dg x), .non, .non, .non]) (fun i : Nat => D.int (y i)) (fun i => decide (1 < y i)) (fun i => D.int (y i)) (List.range n) fun i hi => ⟨[A, .int n, tb n (dg x), .non, .int (y i), .non], by simp, by simp, fun _ => by simp⟩
  refine Go.ret (d := .lst (((List.range n).filter fun i => decide (1 < y i)).map fun i => D.int (y i))) ?_ rfl
  rw [eLc_s, iLst_s, e2]
  simp only [ob_some, asL_l]
  rw [l2]
  rfl
end
end K42

/-! ## K42l -/
/-! k42: chains of divisors are told by products of greatest common numbers (no program in sight) -/
namespace K42
def iv : List Int → Nat → Nat
  | [], _ => 1
  | z :: r, t => Nat.gcd z.natAbs t * iv r t
theorem iv_append {t : Nat} : ∀ {l m : List Int}, iv (l ++ m) t = iv l t * iv m t
  | [], m => by simp [iv]
  | z :: l, m => by
    show Nat.gcd z.natAbs t * iv (l ++ m) t = Nat.gcd z.natAbs t * iv l t * iv m t
    rw [iv_append, Nat.mul_assoc]
theorem iv_perm {t : Nat} {l m : List Int} (h : l.Perm m) : iv l t = iv m t := by
  induction h with
  | nil => rfl
  | cons z _ ih => show _ * _ = _ * _; rw [ih]
  | swap a b l => show _ * (_ * _) = _ * (_ * _); rw [Nat.mul_left_comm]
  | trans _ _ h1 h2 => exact h1.trans h2
theorem iv_reverse {t : Nat} {l : List Int} : iv l.reverse t = iv l t := iv_perm (List.reverse_perm l)
theorem iv_one {t : Nat} {l : List Int} : iv (1 :: l) t = iv l t := by
  show Nat.gcd 1 t * iv l t = _
  simp
theorem iv_filter {t : Nat} : ∀ {l : List Int}, (∀ z ∈ l, 0 < z) → iv (l.filter fun z => decide (1 < z)) t = iv l t
  | [], _ => rfl
  | z :: l, h => by
    have ih := iv_filter (t := t) fun z hz => h z (List.mem_cons_of_mem _ hz)
    have hz := h z List.mem_cons_self
    by_cases h1 : 1 < z
    · rw [List.filter_cons_of_pos (by simpa using h1)]
      show _ * _ = _ * _
      rw [ih]
    · rw [List.filter_cons_of_neg (by simpa using h1), ih]
      have : z = 1 := by omega
      subst this
      rw [iv_one]
theorem gp_iv {x : Nat → Int} {t : Nat} : ∀ {n : Nat}, gp x t n = iv ((List.range n).map x) t
  | 0 => rfl
  | n + 1 => by
    rw [List.range_succ, List.map_append, iv_append, ← gp_iv]
    show _ = _ * (_ * 1)
    rw [Nat.mul_one]
    rfl
theorem iv_pos {t : Nat} : ∀ {l : List Int}, (∀ z ∈ l, 0 < z) → 0 < iv l t
  | [], _ => by simp [iv]
  | z :: l, h => Nat.mul_pos (Nat.gcd_pos_of_pos_left _ (by have := h z List.mem_cons_self; omega)) (iv_pos fun z hz => h z (List.mem_cons_of_mem _ hz))
theorem iv_le {t : Nat} : ∀ {l : List Int}, (∀ z ∈ l, 0 < z) → iv l t ≤ iv l 0
  | [], _ => Nat.le_refl _
  | z :: l, h => by
    show Nat.gcd z.natAbs t * iv l t ≤ Nat.gcd z.natAbs 0 * iv l 0
    rw [Nat.gcd_zero_right]
    exact Nat.mul_le_mul (Nat.gcd_le_left _ (by have := h z List.mem_cons_self; omega)) (iv_le fun z hz => h z (List.mem_cons_of_mem _ hz))
theorem iv_all {t : Nat} : ∀ {l : List Int}, (∀ z ∈ l, z.natAbs ∣ t) → iv l t = iv l 0
  | [], _ => rfl
  | z :: l, h => by
    show Nat.gcd z.natAbs t * iv l t = Nat.gcd z.natAbs 0 * iv l 0
    rw [Nat.gcd_zero_right, Nat.gcd_eq_left (h z List.mem_cons_self), iv_all fun z hz => h z (List.mem_cons_of_mem _ hz)]
theorem all_iv {t : Nat} : ∀ {l : List Int}, (∀ z ∈ l, 0 < z) → iv l t = iv l 0 → ∀ z ∈ l, z.natAbs ∣ t
  | [], _, _, z, hz => nomatch hz
  | y :: l, h, e, z, hz => by
    have h' : ∀ z ∈ l, 0 < z := fun z hz => h z (List.mem_cons_of_mem _ hz)
    have hy := h y List.mem_cons_self
    have e : Nat.gcd y.natAbs t * iv l t = y.natAbs * iv l 0 := by
      have e0 : Nat.gcd y.natAbs t * iv l t = Nat.gcd y.natAbs 0 * iv l 0 := e
      rwa [Nat.gcd_zero_right] at e0
    have h1 : Nat.gcd y.natAbs t ≤ y.natAbs := Nat.gcd_le_left _ (by omega)
    have h2 := iv_le (t := t) h'
    have h3 := iv_pos (t := t) h'
    have h4 : 0 < Nat.gcd y.natAbs t := Nat.gcd_pos_of_pos_left _ (by omega)
    have e1 : Nat.gcd y.natAbs t = y.natAbs := by
      rcases Nat.lt_or_ge (Nat.gcd y.natAbs t) y.natAbs with q | q
      · have a1 : Nat.gcd y.natAbs t * iv l t < y.natAbs * iv l t := Nat.mul_lt_mul_of_pos_right q h3
        have a2 : y.natAbs * iv l t ≤ y.natAbs * iv l 0 := Nat.mul_le_mul_left _ h2
        omega
      · omega
    rw [e1] at e
    have e2 := Nat.eq_of_mul_eq_mul_left (by omega : 0 < y.natAbs) e
    rcases List.mem_cons.mp hz with rfl | hz
    · rw [← e1]; exact Nat.gcd_dvd_right _ _
    · exact all_iv h' e2 z hz
/-- from the greatest one on -/
theorem uniq_rev : ∀ (r s : List Int), r.Pairwise (fun a b => b ∣ a) → s.Pairwise (fun a b => b ∣ a) → (∀ z ∈ r, 1 < z) → (∀ z ∈ s, 1 < z) → (∀ t, iv r t = iv s t) → r = s
  | [], [], _, _, _, _, _ => rfl
  | [], b :: s, _, _, _, h, e => by
    have := e 0
    have e1 : iv (b :: s) 0 = b.natAbs * iv s 0 := by show Nat.gcd _ 0 * _ = _; rw [Nat.gcd_zero_right]
    have hb := h b List.mem_cons_self
    have := iv_pos (t := 0) (l := s) fun z hz => by have := h z (List.mem_cons_of_mem _ hz); omega
    have h2 : 2 * 1 ≤ b.natAbs * iv s 0 := Nat.mul_le_mul (by omega) this
    have e0 : iv [] 0 = 1 := rfl
    omega
  | a :: r, [], _, _, h, _, e => by
    have := e 0
    have e1 : iv (a :: r) 0 = a.natAbs * iv r 0 := by show Nat.gcd _ 0 * _ = _; rw [Nat.gcd_zero_right]
    have hb := h a List.mem_cons_self
    have := iv_pos (t := 0) (l := r) fun z hz => by have := h z (List.mem_cons_of_mem _ hz); omega
    have h2 : 2 * 1 ≤ a.natAbs * iv r 0 := Nat.mul_le_mul (by omega) this
    have e0 : iv [] 0 = 1 := rfl
    omega
  | a :: r, b :: s, hr, hs, h1, h2, e => by
    have p1 : ∀ z ∈ a :: r, 0 < z := fun z hz => by have := h1 z hz; omega
    have p2 : ∀ z ∈ b :: s, 0 < z := fun z hz => by have := h2 z hz; omega
    obtain ⟨r1, r2⟩ := List.pairwise_cons.mp hr
    obtain ⟨s1, s2⟩ := List.pairwise_cons.mp hs
    have da : ∀ z ∈ a :: r, z.natAbs ∣ a.natAbs := fun z hz => by
      rcases List.mem_cons.mp hz with rfl | hz
      · exact Nat.dvd_refl _
      · exact Int.natAbs_dvd_natAbs.mpr (r1 z hz)
    have db : ∀ z ∈ b :: s, z.natAbs ∣ b.natAbs := fun z hz => by
      rcases List.mem_cons.mp hz with rfl | hz
      · exact Nat.dvd_refl _
      · exact Int.natAbs_dvd_natAbs.mpr (s1 z hz)
    have hab : a = b := by
      have k1 := all_iv (t := a.natAbs) p2 ((e a.natAbs).symm.trans ((iv_all da).trans (e 0))) b List.mem_cons_self
      have k2 := all_iv (t := b.natAbs) p1 ((e b.natAbs).trans ((iv_all db).trans (e 0).symm)) a List.mem_cons_self
      have := Nat.dvd_antisymm k2 k1
      have := p1 a List.mem_cons_self
      have := p2 b List.mem_cons_self
      omega
    subst hab
    rw [uniq_rev r s r2 s2 (fun z hz => h1 z (List.mem_cons_of_mem _ hz)) (fun z hz => h2 z (List.mem_cons_of_mem _ hz)) fun t => by
      have e0 : Nat.gcd a.natAbs t * iv r t = Nat.gcd a.natAbs t * iv s t := e t
      exact Nat.eq_of_mul_eq_mul_left (Nat.gcd_pos_of_pos_left _ (by have := p1 a List.mem_cons_self; omega)) e0]
/-- numbers above 1 of which each divides the next -/
structure Ch (l : List Int) : Prop where
  dv : l.Pairwise (fun a b => a ∣ b)
  gt : ∀ z ∈ l, 1 < z
theorem Ch.uniq {l m : List Int} (h : Ch l) (h' : Ch m) (e : ∀ t, iv l t = iv m t) : l = m := by
  have := uniq_rev l.reverse m.reverse (List.pairwise_reverse.mpr h.dv) (List.pairwise_reverse.mpr h'.dv) (fun z hz => h.gt z (List.mem_reverse.mp hz)) (fun z hz => h'.gt z (List.mem_reverse.mp hz)) fun t => by rw [iv_reverse, iv_reverse]; exact e t
  exact List.reverse_inj.mp this
/-- what stands on the way down -/
theorem ch_of {n : Nat} {y : Nat → Int} (hp : ∀ i, i < n → 0 < y i) (hc : ∀ i r, i < r → r < n → y i ∣ y r) : Ch (((List.range n).filter fun i => decide (1 < y i)).map y) ∧ ∀ t, iv (((List.range n).filter fun i => decide (1 < y i)).map y) t = gp y t n := by
  refine ⟨⟨?_, fun z hz => ?_⟩, fun t => ?_⟩
  · rw [List.pairwise_map]
    refine List.Pairwise.filter _ ?_
    have h : (List.range n).Pairwise (· < ·) := List.pairwise_lt_range
    refine h.imp_of_mem fun {a b} ha hb hab => hc a b hab (List.mem_range.mp hb)
  · obtain ⟨i, hi, rfl⟩ := List.mem_map.mp hz
    have := (List.mem_filter.mp hi).2
    simpa using this
  · rw [gp_iv, ← iv_filter (l := (List.range n).map y) (fun z hz => by
      obtain ⟨i, hi, rfl⟩ := List.mem_map.mp hz
      exact hp i (List.mem_range.mp hi)), List.filter_map]
    rfl
end K42

/-! ## K42m -/
/-! k42: gathered, and the law's own, are told by products of greatest common numbers -/
namespace K42
open PySem PySem.Spec PyProof.Rows L2 VV VP
theorem mod_half {a b : Nat} (hb : 0 < b) (h : b < a) : 2 * (b * (a % b)) ≤ a * b := by
  have h1 : a % b + b ≤ a := by
    have := Nat.div_add_mod a b
    have h2 : 1 ≤ a / b := (Nat.one_le_div_iff hb).mpr (by omega)
    have h3 : b * 1 ≤ b * (a / b) := Nat.mul_le_mul_left _ h2
    omega
  have h4 := Nat.mod_lt a hb
  have h5 : b * (2 * (a % b)) ≤ b * a := Nat.mul_le_mul_left _ (by omega)
  have e1 : b * (2 * (a % b)) = 2 * (b * (a % b)) := by rw [Nat.mul_left_comm]
  have e2 : b * a = a * b := Nat.mul_comm _ _
  omega
theorem common_ok {a b : Nat} (ha : 0 < a) (hb : 0 < b) (ha2 : a < 2 ^ 450) (hb2 : b < 2 ^ 450) : f__law_common [.int a, .int b] = some (.ret (.int (Nat.gcd a b : Nat))) := by
  unfold f__law_common
  refine fn_go (by simp) ?_
  show Go m__law_common [.int a, .int b] _
  unfold m__law_common
  rw [go_seq]
  obtain ⟨g, hg⟩ : ∃ g, g = Nat.gcd a b := ⟨_, rfl⟩
  rw [← hg]
  have hlog : (a * b).log2 < 900 := (Nat.log2_lt (Nat.ne_of_gt (Nat.mul_pos ha hb))).mpr (by
    rw [show (2 : Nat) ^ 900 = 2 ^ 450 * 2 ^ 450 by rw [← Nat.pow_add]]
    exact Nat.mul_lt_mul'' ha2 hb2)
  refine go_while (fun m ρ => ∃ a b : Nat, ρ = [.int a, .int b] ∧ Nat.gcd a b = g ∧ (b = 0 ∨ (b < a ∧ 0 < b ∧ (a * b).log2 + 1 ≤ m) ∨ (a ≤ b ∧ 0 < a ∧ (b * a).log2 + 2 ≤ m))) 1000 (by decide) ⟨a, b, rfl, hg.symm, ?_⟩ ?_
  · rcases Nat.lt_or_ge b a with z | z
    · exact .inr (.inl ⟨z, hb, by omega⟩)
    · exact .inr (.inr ⟨z, ha, by rw [Nat.mul_comm]; omega⟩)
  · rintro m ρ ⟨p, q, rfl, hpq, hm⟩
    by_cases hq : q = 0
    · subst hq
      refine .inl ⟨by simp, ?_⟩
      rw [cont_nx]
      rw [Nat.gcd_zero_right] at hpq
      subst hpq
      exact Go.ret (d := .int (p : Nat)) rfl rfl
    · refine .inr ⟨by simp; omega, ?_⟩
      have hq0 : 0 < q := by omega
      refine ⟨.nx [.int q, .int (p % q : Nat)], ?_, ?_⟩
      · unfold m__law_common_b1 sPar
        have e : (aCons (eVar 1) (aCons (eP dMod (aCons (eVar 0) (aCons (eVar 1) aNil))) aNil)) [D.int p, D.int q] = some [D.int q, .int (p % q : Nat)] := by
          have h0 : (0 : Int) < (q : Int) := by omega
          simp [dMod_s h0]
        rw [e]
        rfl
      · have hg2 : Nat.gcd q (p % q) = g := by
          rw [← hpq, Nat.gcd_comm p q, Nat.gcd_rec q p, Nat.gcd_comm]
        have hlt := Nat.mod_lt p hq0
        rcases hm with h | ⟨h1, h2, h3⟩ | ⟨h1, h2, h3⟩
        · omega
        · refine ⟨m - 1, _, by omega, .inl rfl, q, p % q, rfl, hg2, ?_⟩
          by_cases hz : p % q = 0
          · exact .inl hz
          · have := log2_half (Nat.mul_pos hq0 (by omega : 0 < p % q)) (mod_half hq0 h1)
            exact .inr (.inl ⟨hlt, by omega, by omega⟩)
        · refine ⟨m - 1, _, by omega, .inl rfl, q, p % q, rfl, hg2, ?_⟩
          by_cases hz : p % q = 0
          · exact .inl hz
          · have : p < q := by
              rcases Nat.lt_or_ge p q with z | z
              · exact z
              · have : p = q := by omega
                subst this; simp at hz
            have e : p % q = p := Nat.mod_eq_of_lt this
            rw [e]
            exact .inr (.inl ⟨this, h2, by omega⟩)
section
variable {n i j : Nat} {y : Nat → Int} {Z : Nat → Nat}
theorem lput_row {v : Int} (hj : j < n) : lPut (rowD n y) (.int j) (.int v) = some (rowD n (up y j v)) := by
  unfold rowD lPut
  simp only [List.length_map, List.length_range, ixN_n hj, Option.map_some]
  rw [range_set hj]
  congr 2
  apply List.map_congr_left
  intro r _
  unfold up
  split <;> rfl
theorem one_le {k : Nat} (hk : k < n) (hx : ∀ r, r < n → y r ≠ 0) : (y k).natAbs ≤ gp y 0 n := by
  have h1 := gp_up (x := y) (t := 0) (a := 1) hk
  simp only [Nat.gcd_zero_right] at h1
  have p : 0 < gp (up y k 1) 0 n := gp_pos fun r hr => by
    unfold up
    split
    · decide
    · exact hx r hr
  have q : 1 * (y k).natAbs ≤ gp (up y k 1) 0 n * (y k).natAbs := Nat.mul_le_mul_right _ p
  simp at h1
  omega
structure LI (n i j : Nat) (Z : Nat → Nat) (y : Nat → Int) : Prop where
  pos : ∀ r, r < n → 0 < y r
  gp : ∀ t, gp y t n = Z t
  ch : ∀ q r, q < i → q < r → r < n → y q ∣ y r
  dn : ∀ r, i < r → r < j → y i ∣ y r
theorem pair_turn (hi : i < j) (hj : j < n) (h : LI n i j Z y) (hZ : Z 0 < 2 ^ 450) {A x4 x5 x6 : D} : Go m__law_gathered_b2 [A, rowD n y, .int i, .int j, x4, x5, x6] fun o => ∃ y' x4' x5', o = .nx [A, rowD n y', .int i, .int j, x4', x5', x6] ∧ LI n i (j + 1) Z y' := by
  have hin : i < n := by omega
  have hij : i ≠ j := by omega
  have hnz : ∀ r, r < n → y r ≠ 0 := fun r hr => by have := h.pos r hr; omega
  have pi := h.pos i hin
  have pj := h.pos j hj
  have bi : (y i).natAbs < 2 ^ 450 := Nat.lt_of_le_of_lt (one_le hin hnz) (by rw [h.gp]; exact hZ)
  have bj : (y j).natAbs < 2 ^ 450 := Nat.lt_of_le_of_lt (one_le hj hnz) (by rw [h.gp]; exact hZ)
  obtain ⟨p, hp⟩ : ∃ p, p = (y i).natAbs := ⟨_, rfl⟩
  obtain ⟨q, hq⟩ : ∃ q, q = (y j).natAbs := ⟨_, rfl⟩
  have ep : y i = (p : Int) := by omega
  have eq : y j = (q : Int) := by omega
  have hp0 : 0 < p := by omega
  have hq0 : 0 < q := by omega
  rw [← hp] at bi
  rw [← hq] at bj
  obtain ⟨g, hg⟩ : ∃ g, g = Nat.gcd p q := ⟨_, rfl⟩
  have hg0 : 0 < g := by rw [hg]; exact Nat.gcd_pos_of_pos_left _ hp0
  have hgp : g ∣ p := by rw [hg]; exact Nat.gcd_dvd_left _ _
  have hgq : g ∣ q := by rw [hg]; exact Nat.gcd_dvd_right _ _
  have ri : dIdx [rowD n y, .int i] = some (.int (p : Int)) := by rw [idx_row hin, ep]
  have rj : dIdx [rowD n y, .int j] = some (.int (q : Int)) := by rw [idx_row hj, eq]
  unfold m__law_gathered_b2
  refine Go.set (d := .int (g : Nat)) ?_ ?_
  · simp only [eCall_s, aCons_s, aNil_s, eP_s, eVar_s, eChk_s, List.getElem?_cons_zero, List.getElem?_cons_succ, ob_some, ri, rj, Option.filter_some, fl_int, if_true, common_ok hp0 hq0 bi bj, asRet_s, hg]
  show Go m__law_gathered_b2_1 [A, rowD n y, .int i, .int j, .int (g : Nat), x5, x6] _
  unfold m__law_gathered_b2_1
  refine Go.set (d := .int ((p / g : Nat) : Int)) ?_ ?_
  · have hc : CDivW (p : Int) (g : Int) := ⟨by omega, by
      have hgl : g ≤ p := Nat.le_of_dvd hp0 hgp
      have := (Nat.log2_lt (n := ((g : Int)).natAbs) (by omega) (k := 450)).mpr (by show g < _; omega)
      omega⟩
    simp only [aCons_s, aNil_s, eP_s, eVar_s, eChk_s, List.getElem?_cons_zero, List.getElem?_cons_succ, ob_some, ri, Option.filter_some, fl_int, if_true, dDiv_s hc]
    rfl
  show Go m__law_gathered_b2_2 [A, rowD n y, .int i, .int j, .int (g : Nat), .int ((p / g : Nat) : Int), x6] _
  unfold m__law_gathered_b2_2
  have hm : dMul [.int ((p / g : Nat) : Int), .int (q : Int)] = some (.int ((p / g * q : Nat) : Int)) := by
    have b1 : Bn 450 ((p / g : Nat) : Int) := Nat.lt_of_le_of_lt (Nat.div_le_self p g) bi
    have b2 : Bn 450 (q : Int) := bj
    rw [dMul_s (Bn.cmul b1 b2 (by decide))]
    rw [Int.natCast_mul]
  refine Go.put (v := .int ((p / g * q : Nat) : Int)) (x := .int j) (y := rowD n y) (z := rowD n (up y j ((p / g * q : Nat) : Int))) ?_ rfl rfl (lput_row hj) ?_
  · simp only [aCons_s, aNil_s, eP_s, eVar_s, eChk_s, List.getElem?_cons_zero, List.getElem?_cons_succ, ob_some, rj, Option.filter_some, fl_int, if_true, hm]
  show Go m__law_gathered_b2_3 [A, rowD n (up y j ((p / g * q : Nat) : Int)), .int i, .int j, .int (g : Nat), .int ((p / g : Nat) : Int), x6] _
  unfold m__law_gathered_b2_3
  refine Go.put1 (v := .int (g : Nat)) (x := .int i) (y := rowD n (up y j ((p / g * q : Nat) : Int))) (z := rowD n (up (up y j ((p / g * q : Nat) : Int)) i (g : Nat))) rfl rfl rfl (lput_row hin) ?_
  refine ⟨_, _, _, rfl, ?_⟩
  rw [← up2_up]
  have hpg : p / g * g = p := Nat.div_mul_cancel hgp
  have hpg0 : 0 < p / g := Nat.div_pos (Nat.le_of_dvd hp0 hgp) hg0
  have vi : up2 y i j (g : Nat) ((p / g * q : Nat) : Int) i = (g : Int) := by simp [up2]
  have vj : up2 y i j (g : Nat) ((p / g * q : Nat) : Int) j = ((p / g * q : Nat) : Int) := by simp [up2, Ne.symm hij]
  have vo : ∀ r, r ≠ i → r ≠ j → up2 y i j (g : Nat) ((p / g * q : Nat) : Int) r = y r := fun r h1 h2 => by simp [up2, h1, h2]
  have dg1 : ∀ m : Int, m ∣ y i → m ∣ y j → m ∣ (g : Int) := fun m h1 h2 => by
    rw [ep] at h1
    rw [eq] at h2
    rw [← Int.natAbs_dvd]
    rw [← Int.natAbs_dvd] at h1 h2
    rw [hg]
    exact Int.ofNat_dvd.mpr (Nat.dvd_gcd (Int.ofNat_dvd.mp h1) (Int.ofNat_dvd.mp h2))
  have dgi : (g : Int) ∣ y i := by rw [ep]; exact Int.ofNat_dvd.mpr hgp
  have dgj : y j ∣ ((p / g * q : Nat) : Int) := by rw [eq]; exact Int.ofNat_dvd.mpr (Nat.dvd_mul_left _ _)
  refine ⟨fun r hr => ?_, fun t => ?_, fun u r h1 h2 h3 => ?_, fun r h1 h2 => ?_⟩
  · by_cases h1 : r = i
    · subst h1; rw [vi]; omega
    · by_cases h2 : r = j
      · subst h2
        rw [vj]
        have := Nat.mul_pos hpg0 hq0
        omega
      · rw [vo r h1 h2]; exact h.pos r hr
  · rw [← h.gp t]
    refine gp_swap hij hin hj hnz ?_
    have e1 : ((g : Nat) : Int).natAbs = g := rfl
    have e2 : ((p / g * q : Nat) : Int).natAbs = p / g * q := rfl
    rw [e1, e2, ← hp, ← hq]
    refine gcd_pair ?_ ?_ t
    · rw [Nat.mul_left_comm, ← Nat.mul_assoc, hpg]
    · rw [← hg]
      exact Nat.gcd_eq_left (Nat.dvd_trans hgq (Nat.dvd_mul_left _ _))
  · rw [vo u (by omega) (by omega)]
    by_cases h4 : r = i
    · subst h4
      rw [vi]
      exact dg1 _ (h.ch u r h1 h2 h3) (h.ch u j h1 (by omega) hj)
    · by_cases h5 : r = j
      · subst h5
        rw [vj]
        exact Int.dvd_trans (h.ch u r h1 h2 h3) dgj
      · rw [vo r h4 h5]; exact h.ch u r h1 h2 h3
  · rw [vi]
    by_cases h5 : r = j
    · subst h5
      rw [vj]
      exact Int.dvd_trans (by rw [eq]; exact Int.ofNat_dvd.mpr hgq) dgj
    · rw [vo r (by omega) h5]
      exact Int.dvd_trans dgi (h.dn r h1 (by omega))
end
theorem getD_row (xs : List Int) : (.lst (xs.map D.int) : D) = rowD xs.length fun i => xs.getD i 0 := by
  unfold rowD
  congr 1
  apply List.ext_getElem
  · simp
  · intro k h1 h2
    simp only [List.length_map] at h1
    simp [h1]
theorem lgathered_ok (xs : List Int) (hn : xs.length ≤ 20) (h0 : ∀ z ∈ xs, 0 < z) (hpq : iv xs 0 < 2 ^ 450) : ∃ ys, f__law_gathered [.lst (xs.map D.int)] = some (.ret (.lst (ys.map D.int))) ∧ Ch ys ∧ (∀ t, iv ys t = iv xs t) ∧ ys.length ≤ xs.length := by
  obtain ⟨x, hx⟩ : ∃ x : Nat → Int, x = fun i => xs.getD i 0 := ⟨_, rfl⟩
  obtain ⟨n, hnn⟩ : ∃ n, n = xs.length := ⟨_, rfl⟩
  have exs : xs = (List.range n).map x := by
    rw [hx, hnn]
    apply List.ext_getElem
    · simp
    · intro k h1 h2; simp [h1]
  have hgp : ∀ t, gp x t n = iv xs t := fun t => by rw [gp_iv, ← exs]
  have hpos : ∀ r, r < n → 0 < x r := fun r hr => h0 _ (by rw [exs]; exact List.mem_map.mpr ⟨r, List.mem_range.mpr hr, rfl⟩)
  rw [getD_row, ← hnn, ← hx]
  rw [← hnn] at hn
  obtain ⟨A, hA⟩ : ∃ A : D, A = rowD n x := ⟨_, rfl⟩
  rw [← hA]
  unfold f__law_gathered
  suffices hh : ∃ d, fnSem 7 [.lab none [0] false] m__law_gathered [A] = some (.ret d) ∧ ∃ y : Nat → Int, d = .lst (((List.range n).filter fun i => decide (1 < y i)).map fun i => D.int (y i)) ∧ LI n n n (fun t => gp x t n) y by
    obtain ⟨d, e1, y, rfl, hI⟩ := hh
    obtain ⟨c1, c2⟩ := ch_of (y := y) hI.pos (fun i r h1 h2 => hI.ch i r (by omega) h1 h2)
    refine ⟨((List.range n).filter fun i => decide (1 < y i)).map y, ?_, c1, fun t => by rw [c2, hI.gp, hgp], ?_⟩
    · rw [e1, List.map_map]
      rfl
    · rw [List.length_map]
      have := List.length_filter_le (fun i => decide (1 < y i)) (List.range n)
      rw [List.length_range] at this
      omega
  refine fn_ex (by simp) ?_
  show Go m__law_gathered [A, .non, .non, .non, .non, .non, .non] _
  unfold m__law_gathered
  refine Go.set (d := rowD n x) ?_ ?_
  · rw [hA]
    have : dList [rowD n x] = some (rowD n x) := rfl
    simp only [eChk_s, eP_s, aCons_s, aNil_s, eVar_s, List.getElem?_cons_zero, ob_some, this]
    rw [Option.filter_some, if_pos]
    show D.isFlatL _ = true
    rw [isFlatL_all]; simp [D.isFlat]
  show Go m__law_gathered_1 [A, rowD n x, .non, .non, .non, .non, .non] _
  unfold m__law_gathered_1
  have hlen : ∀ y : Nat → Int, dLen [rowD n y] = some (.int n) := fun y => by unfold rowD; rw [dLen_l]; simp
  rw [go_seq]
  refine go_for (fun i : Nat => D.int i) (List.range n) (fun i ρ => ∃ y x2 x3 x4 x5, ρ = [A, rowD n y, x2, x3, x4, x5, .non] ∧ LI n i i (fun t => gp x t n) y) (iR (n := n) (by simp only [eP_s, aCons_s, aNil_s, eVar_s, List.getElem?_cons_zero, List.getElem?_cons_succ, ob_some, hlen]) (by omega)) ⟨x, .non, .non, .non, .non, rfl, hpos, fun _ => rfl, fun q r h => by omega, fun r h1 h2 => by omega⟩ ?_ ?_
  · rintro i i' ρ hi ⟨y, x2, x3, x4, x5, rfl, hI⟩
    obtain ⟨hil, hi'⟩ := List.getElem?_eq_some_iff.mp hi
    simp only [List.length_range, List.getElem_range] at hil hi'
    subst hi'
    refine ⟨_, gN_s, ?_⟩
    show Go m__law_gathered_b1 [A, rowD n y, .int (i : Nat), x3, x4, x5, .non] _
    unfold m__law_gathered_b1
    refine go_for (fun t : Nat => D.int ((i + 1 + t : Nat) : Int)) (List.range (n - (i + 1))) (fun t ρ => ∃ y x3 x4 x5, ρ = [A, rowD n y, .int (i : Nat), x3, x4, x5, .non] ∧ LI n i (i + 1 + t) (fun t => gp x t n) y) (rng_kn (k := i + 1) (by simp only [eP_s, aCons_s, aNil_s, eVar_s, eC_s, List.getElem?_cons_zero, List.getElem?_cons_succ, ob_some, hlen, dI2_s]; rfl) (by omega) (by omega)) ⟨y, x3, x4, x5, rfl, hI.pos, hI.gp, hI.ch, fun r h1 h2 => by omega⟩ ?_ ?_
    · rintro t t' ρ ht ⟨y, x3, x4, x5, rfl, hI⟩
      obtain ⟨htl, ht'⟩ := List.getElem?_eq_some_iff.mp ht
      simp only [List.length_range, List.getElem_range] at htl ht'
      subst ht'
      refine ⟨_, gN_s, ?_⟩
      refine (pair_turn (n := n) (i := i) (j := i + 1 + t) (by omega) (by omega) hI (by rw [hgp]; exact hpq)).mono ?_
      rintro o ⟨y', x4', x5', rfl, hI'⟩
      exact ⟨_, .inl rfl, y', _, x4', x5', rfl, hI'⟩
    · rintro ρ ⟨y, x3, x4, x5, rfl, hI⟩
      simp only [List.length_range] at hI
      refine ⟨_, .inl rfl, y, _, x3, x4, x5, rfl, hI.pos, hI.gp, fun q r h1 h2 h3 => ?_, fun r h1 h2 => by omega⟩
      by_cases hq : q = i
      · subst hq; exact hI.dn r h2 (by omega)
      · exact hI.ch q r (by omega) h2 h3
  · rintro ρ ⟨y, x2, x3, x4, x5, rfl, hI⟩
    simp only [List.length_range] at hI
    rw [cont_nx]
    unfold m__law_gathered_2
    have l2 := lcL_filter (t := gF (gN 6)) (c := tOf (eP dGt (aCons (eVar 6) (aCons (eC (.int 1)) aNil)))) (e := eVar 6) (ρ := [A, rowD n y, x2, x3, x4, x5, .non]) (fun i : Nat => D.int (y i)) (fun i => decide (1 < y i)) (fun i => D.int (y i)) (List.range n) fun i hi => ⟨[A, rowD n y, x2, x3, x4, x5, .int (y i)], by simp, by simp, fun _ => by simp⟩
    refine Go.ret (d := .lst (((List.range n).filter fun i => decide (1 < y i)).map fun i => D.int (y i))) ?_ ⟨_, rfl, y, rfl, hI⟩
    rw [eLc_s, iLst_s, eVar_s]
    simp only [List.getElem?_cons_zero, List.getElem?_cons_succ, ob_some]
    have ea : asL (rowD n y) = some ((List.range n).map fun i => D.int (y i)) := rfl
    rw [ea, ob_some, l2]
    rfl
theorem gathered_ok (xs : List Int) (hn : xs.length ≤ 20) (h0 : ∀ z ∈ xs, 0 < z) (hpq : iv xs 0 < 2 ^ 450) : ∃ ys, f_gathered [.lst (xs.map D.int)] = some (.ret (.lst (ys.map D.int))) ∧ Ch ys ∧ ∀ t, iv ys t = iv xs t := by
  have exs : xs = (List.range xs.length).map fun i => xs.getD i 0 := by
    apply List.ext_getElem
    · simp
    · intro k h1 h2; simp [h1]
  have hgp : ∀ t, gp (fun i => xs.getD i 0) t xs.length = iv xs t := fun t => by rw [gp_iv, ← exs]
  obtain ⟨y, e1, hI⟩ := gathered_raw xs hn (fun z hz => by have := h0 z hz; omega) (by rw [hgp]; exact hpq)
  obtain ⟨c1, c2⟩ := ch_of (y := y) hI.pos (fun i r h1 h2 => hI.ch i r (by omega) h1 h2)
  refine ⟨((List.range xs.length).filter fun i => decide (1 < y i)).map y, ?_, c1, fun t => by rw [c2, hI.gp, hgp]⟩
  rw [e1, List.map_map]
  rfl
end K42

/-! ## K42q -/
/-! k42: the law -/
namespace K42
open PySem PySem.Spec PyProof.Rows L2 VV VP
theorem pick_rev {l : List D} : pickS l (-1) = l.reverse := by
  unfold pickS
  have e1 : (sliceRange (sliceBounds none none (some (-1)) l.length).1 (sliceBounds none none (some (-1)) l.length).2.1 (sliceBounds none none (some (-1)) l.length).2.2) = (List.range l.length).map fun k => l.length - 1 - k := by
    have hneg : ¬ ((-1 : Int) > 0) := by decide
    simp only [sliceBounds, sliceRange, Option.getD_some, hneg, if_false]
    by_cases h : l.length = 0
    · rw [h]; simp
    · rw [if_pos (by omega)]
      have e : (((l.length : Int) - 1 - -1 - -1 - 1) / - -1).toNat = l.length := by
        have : ((l.length : Int) - 1 - -1 - -1 - 1) / - -1 = l.length := by
          rw [show (- -1 : Int) = 1 by decide, Int.ediv_one]; omega
        rw [this]; simp
      rw [e]
      apply List.map_congr_left
      intro k hk
      have := List.mem_range.mp hk
      omega
  rw [e1, List.filterMap_map]
  have e2 : ∀ k ∈ List.range l.length, ((fun x => l[x]?) ∘ fun k => l.length - 1 - k) k = (some ∘ fun k => l.reverse.getD k .non) k := by
    intro k hk
    have hk := List.mem_range.mp hk
    simp only [Function.comp]
    rw [List.getElem?_eq_getElem (by omega)]
    simp [hk]
  have e3 : ∀ (m : List Nat), (∀ k ∈ m, ((fun x => l[x]?) ∘ fun k => l.length - 1 - k) k = (some ∘ fun k => l.reverse.getD k .non) k) → m.filterMap ((fun x => l[x]?) ∘ fun k => l.length - 1 - k) = m.map fun k => l.reverse.getD k .non := by
    intro m
    induction m with
    | nil => intro _; rfl
    | cons a r ih =>
      intro h
      rw [List.filterMap_cons, h a List.mem_cons_self]
      simp only [Function.comp]
      rw [List.map_cons, ← ih fun k hk => h k (List.mem_cons_of_mem _ hk)]
  rw [e3 _ e2]
  apply List.ext_getElem
  · simp
  · intro k h1 h2
    simp only [List.length_map, List.length_range] at h1
    simp [h1]
theorem isi_lst {l : List D} : dIsi "list" [.lst l] = some (.bl true) := isi_s (N := "list") rfl (by decide +kernel)
theorem good_ok (ys : List Int) : f__law_good [.lst (ys.map D.int), .lst (ys.map D.int)] = some (.ret (.bl true)) := by
  unfold f__law_good
  refine fn_go (by simp) ?_
  show Go m__law_good [.lst (ys.map D.int), .lst (ys.map D.int), .non] _
  unfold m__law_good
  have en : dNe [.lst (ys.map D.int), .lst (ys.map D.int)] = some (.bl (decide (ys ≠ ys))) := ne_ints
  refine Go.no ?_ ?_
  · simp only [wOr_s, wNot_s, tOf_s, eP_s, aCons_s, aNil_s, eVar_s, List.getElem?_cons_zero, List.getElem?_cons_succ, ob_some, isi_lst, en, asB_s]
    simp
  unfold m__law_good_1
  rw [go_seq]
  refine go_for D.int ys (fun _ ρ => ∃ x2, ρ = [.lst (ys.map D.int), .lst (ys.map D.int), x2]) (by simp) ⟨.non, rfl⟩ ?_ ?_
  · rintro i a ρ _ ⟨x2, rfl⟩
    refine ⟨[.lst (ys.map D.int), .lst (ys.map D.int), .int a], by simp, ?_⟩
    unfold m__law_good_b1
    rw [go_f (by simp), go_nil]
    exact ⟨_, .inl rfl, _, rfl⟩
  · rintro ρ ⟨x2, rfl⟩
    rw [cont_nx]
    exact Go.ret (d := .bl true) rfl rfl
theorem numbers_ok (cell : Int) (many : Nat) (hm : many ≤ 12) : ∃ xs : List Int, f__law_numbers [.int cell, .int many] = some (.ret (.lst (xs.map D.int))) ∧ xs.length = many ∧ ∀ z ∈ xs, 0 < z ∧ z < 2 ^ 37 := by
  obtain ⟨r, hr, hl, hb⟩ := row_ok cell many 1000000000000 (by omega) (by decide) (by decide)
  simp only [Int.cast_ofNat_Int] at hr
  unfold f__law_numbers
  suffices hh : ∃ d, fnSem 6 [.flat, .flat] m__law_numbers [.int cell, .int many] = some (.ret d) ∧ ∃ xs : List Int, d = .lst (xs.map D.int) ∧ xs.length = many ∧ ∀ z ∈ xs, 0 < z ∧ z < 2 ^ 37 by
    obtain ⟨d, e1, xs, rfl, h⟩ := hh
    exact ⟨xs, e1, h⟩
  refine fn_ex (by simp) ?_
  show Go m__law_numbers [.int cell, .int many, .non, .non, .non, .non] _
  unfold m__law_numbers
  refine Go.set (d := .lst []) (by simp) ?_
  show Go m__law_numbers_1 [.int cell, .int many, .lst [], .non, .non, .non] _
  unfold m__law_numbers_1
  rw [go_seq]
  have hit : iEnumL (eChk D.kidsFlat (eCall f__law_row (aCons (eVar 0) (aCons (eVar 1) (aCons (eC (.int 1000000000000)) aNil))))) [.int cell, .int many, .lst [], .non, .non, .non] = some ((List.range r.length).map fun k : Nat => D.tup [.int k, .int (r.getD k 0)]) := by
    rw [iEnum_s]
    have e4 : (some (D.lst (r.map D.int))).filter D.kidsFlat = some (D.lst (r.map D.int)) := by
      rw [Option.filter_some, if_pos]
      show D.isFlatL _ = true
      rw [isFlatL_all]; simp [D.isFlat]
    simp only [eChk_s, eCall_s, aCons_s, aNil_s, eVar_s, eC_s, List.getElem?_cons_zero, List.getElem?_cons_succ, ob_some, hr, asRet_s, e4]
    congr 1
    apply List.ext_getElem
    · simp
    · intro k h1 h2
      simp only [List.length_mapIdx, List.length_map] at h1
      simp [h1]
  refine go_for (fun k : Nat => D.tup [.int k, .int (r.getD k 0)]) (List.range r.length) (fun i ρ => ∃ (xs : List Int) (x3 x4 x5 : D), ρ = [.int cell, .int many, .lst (xs.map D.int), x3, x4, x5] ∧ xs.length = i ∧ ∀ z ∈ xs, 0 < z ∧ z < 2 ^ 37) hit ⟨[], .non, .non, .non, rfl, rfl, fun z hz => nomatch hz⟩ ?_ ?_
  · rintro i i' ρ hi ⟨xs, x3, x4, x5, rfl, hxl, hxs⟩
    obtain ⟨hil, hi'⟩ := List.getElem?_eq_some_iff.mp hi
    simp only [List.length_range, List.getElem_range] at hil hi'
    subst hi'
    obtain ⟨d, hd⟩ : ∃ d, d = r.getD i 0 := ⟨_, rfl⟩
    have hdb : 0 ≤ d ∧ d < 1000000000000 := by
      rw [hd, List.getD_eq_getElem?_getD, List.getElem?_eq_getElem hil]
      exact hb _ (List.getElem_mem hil)
    refine ⟨[.int cell, .int many, .lst (xs.map D.int), .int i, .int d, x5], by simp [hd], ?_⟩
    have h8 : dDiv [.int d, .int 8] = some (.int (d / 8)) := dDiv_s (cdv (by decide) (by decide))
    have hd8 : 0 ≤ d / 8 := Int.ediv_nonneg hdb.1 (by decide)
    have hd8' : d / 8 < 125000000000 := Int.ediv_lt_of_lt_mul (by decide) (by omega)
    obtain ⟨L, hL⟩ : ∃ L : List Int, L = [1, 1 + d / 8 % 30, 2, 1 + d / 8 % 720, 1 + d / 8, 1 + d / 8 % 12, 6, 900] := ⟨_, rfl⟩
    have hLb : ∀ z ∈ L, 0 < z ∧ z < 2 ^ 37 := by
      rw [hL]
      have a1 := Int.emod_nonneg (d / 8) (b := 30) (by decide)
      have a2 := Int.emod_lt_of_pos (d / 8) (b := 30) (by decide)
      have a3 := Int.emod_nonneg (d / 8) (b := 720) (by decide)
      have a4 := Int.emod_lt_of_pos (d / 8) (b := 720) (by decide)
      have a5 := Int.emod_nonneg (d / 8) (b := 12) (by decide)
      have a6 := Int.emod_lt_of_pos (d / 8) (b := 12) (by decide)
      intro z hz
      have e37 : (2 : Int) ^ 37 = 137438953472 := by decide
      rw [e37]
      simp only [List.mem_cons, List.not_mem_nil, or_false] at hz
      rcases hz with rfl | rfl | rfl | rfl | rfl | rfl | rfl | rfl <;> omega
    unfold m__law_numbers_b1
    refine Go.set (d := .lst (L.map D.int)) ?_ ?_
    · simp [hL, h8, -dMod_s, dMod_s (show (0 : Int) < 30 by decide), dMod_s (show (0 : Int) < 720 by decide), dMod_s (show (0 : Int) < 12 by decide)]
    show Go m__law_numbers_b1_1 [.int cell, .int many, .lst (xs.map D.int), .int i, .int d, .lst (L.map D.int)] _
    obtain ⟨v, hv, ev⟩ := idx_mod L 8 d (by rw [hL]; rfl) (by rw [hL]; simp)
    unfold m__law_numbers_b1_1
    refine Go.mut1 (y := .int v) (x := .lst (xs.map D.int)) (z := .lst ((xs ++ [v]).map D.int)) ?_ rfl ?_ ⟨_, .inl rfl, xs ++ [v], .int i, .int d, .lst (L.map D.int), rfl, by simp [hxl], fun z hz => ?_⟩
    · simp only [eChk_s, eP_s, aCons_s, aNil_s, eVar_s, eC_s, List.getElem?_cons_zero, List.getElem?_cons_succ, ob_some, dMod_s (show (0 : Int) < 8 by decide), ev, Option.filter_some, fl_int, if_true]
    · rw [dPush_s (by simp; omega)]
      simp
    · rcases List.mem_append.mp hz with hz | hz
      · exact hxs z hz
      · rw [List.mem_singleton.mp hz]; exact hLb v hv
  · rintro ρ ⟨xs, x3, x4, x5, rfl, hxl, hxs⟩
    simp only [List.length_range] at hxl
    rw [cont_nx]
    exact Go.ret (d := .lst (xs.map D.int)) rfl ⟨_, rfl, xs, rfl, by omega, hxs⟩
theorem iv_bound : ∀ (xs : List Int), (∀ z ∈ xs, 0 < z ∧ z < 2 ^ 37) → iv xs 0 < 2 ^ (37 * xs.length + 1)
  | [], _ => by decide
  | z :: r, h => by
    have ih := iv_bound r fun z hz => h z (List.mem_cons_of_mem _ hz)
    have hz := h z List.mem_cons_self
    show Nat.gcd z.natAbs 0 * iv r 0 < _
    rw [Nat.gcd_zero_right, List.length_cons, show 37 * (r.length + 1) + 1 = 37 + (37 * r.length + 1) by omega, Nat.pow_add]
    refine Nat.mul_lt_mul'' ?_ ih
    have e37 : (2 : Int) ^ 37 = 137438953472 := by decide
    have e37' : (2 : Nat) ^ 37 = 137438953472 := by decide
    rw [e37] at hz
    rw [e37']
    omega
theorem law_true : ∀ ns : List Int, ns.length ≤ 63 → (∀ z ∈ ns, PySem.Builtin.Int.intBits z ≤ 1048576) → f_law [.scr (ns.map D.int)] = some (.ret (.bl true)) := by
  intro ns hn hz
  obtain ⟨S, hS⟩ : ∃ S, S = D.scr (ns.map D.int) := ⟨_, rfl⟩
  have cell : ∀ k : Nat, f__law_cell_at [S, .int k] = some (.ret (.int (ns.getD k 0))) := fun k => by rw [hS]; exact cell_ok ns k
  have hSf : S.isFlat = true := by rw [hS]; rfl
  rw [← hS]
  unfold f_law
  refine fn_go (by simp [hSf]) ?_
  show Go m_law [S, .non, .non, .non, .non, .non, .non, .non, .non] _
  obtain ⟨r, hr, hl, hb⟩ := row_ok (ns.getD 0 0) 3 4096 (by decide) (by decide) (by decide)
  obtain ⟨a0, a1, a2, rfl⟩ : ∃ a0 a1 a2, r = [a0, a1, a2] := by
    match r, hl with
    | [a0, a1, a2], _ => exact ⟨_, _, _, rfl⟩
  have c0 := cell 0
  have c1 := cell 1
  simp only [Int.ofNat_zero, Int.natCast_zero] at c0
  simp only [Int.ofNat_one, Int.natCast_one] at c1
  simp only [Int.cast_ofNat_Int] at hr
  have b0 := hb a0 (by simp)
  have b2 := hb a2 (by simp)
  obtain ⟨H, hH⟩ : ∃ H, H = D.lst ([a0, a1, a2].map D.int) := ⟨_, rfl⟩
  rw [← hH] at hr
  have hHk : (some H).filter D.kidsFlat = some H := by rw [hH]; rfl
  have h0 : dIdx [H, .int 0] = some (.int a0) := by rw [hH]; simp
  have h1 : dIdx [H, .int 1] = some (.int a1) := by rw [hH]; simp
  have h2 : dIdx [H, .int 2] = some (.int a2) := by rw [hH]; simp
  unfold m_law
  refine Go.set (d := H) (by simp only [eChk_s, eCall_s, aCons_s, aNil_s, eVar_s, eC_s, List.getElem?_cons_zero, ob_some, c0, asRet_s, hr, hHk]) ?_
  show Go m_law_1 [S, H, .non, .non, .non, .non, .non, .non, .non] _
  unfold m_law_1
  obtain ⟨many, hmany, hmle⟩ : ∃ many : Nat, (eP dMod (aCons (eChk D.isFlat (eP dIdx (aCons (eVar 1) (aCons (eC (.int 0)) aNil)))) (aCons (eChk D.isFlat (eP dIdx (aCons (eLst (aCons (eC (.int 9)) (aCons (eC (.int 13)) aNil))) (aCons (eP dIntC (aCons (eP dEq (aCons (eP dMod (aCons (eChk D.isFlat (eP dIdx (aCons (eVar 1) (aCons (eC (.int 1)) aNil)))) (aCons (eC (.int 8)) aNil))) (aCons (eC (.int 5)) aNil))) aNil)) aNil)))) aNil))) [S, H, .non, .non, .non, .non, .non, .non, .non] = some (.int (many : Nat)) ∧ many ≤ 12 := by
    have key : ∀ m : Int, 0 < m → m ≤ 13 → dMod [.int a0, .int m] = some (.int ((a0 % m).toNat : Nat)) ∧ (a0 % m).toNat ≤ 12 := fun m h1 h2 => by
      have q1 := Int.emod_nonneg a0 (b := m) (by omega)
      have q2 := Int.emod_lt_of_pos a0 (b := m) h1
      refine ⟨?_, by omega⟩
      rw [dMod_s h1, Int.toNat_of_nonneg q1]
    by_cases h5 : a1 % 8 = 5
    · obtain ⟨k1, k2⟩ := key 13 (by decide) (by decide)
      refine ⟨_, ?_, k2⟩
      rw [← k1]
      simp only [eP_s, aCons_s, aNil_s, eVar_s, eC_s, eChk_s, eLst_s, List.getElem?_cons_zero, List.getElem?_cons_succ, ob_some, h0, h1, Option.filter_some, fl_int, if_true, dMod_s (show (0 : Int) < 8 by decide), h5]
      simp [-dMod_s, Option.filter_some]
    · obtain ⟨k1, k2⟩ := key 9 (by decide) (by decide)
      refine ⟨_, ?_, k2⟩
      rw [← k1]
      simp only [eP_s, aCons_s, aNil_s, eVar_s, eC_s, eChk_s, eLst_s, List.getElem?_cons_zero, List.getElem?_cons_succ, ob_some, h0, h1, Option.filter_some, fl_int, if_true, dMod_s (show (0 : Int) < 8 by decide)]
      simp [-dMod_s, h5, Option.filter_some]
  refine Go.set hmany ?_
  show Go m_law_2 [S, H, .int (many : Nat), .non, .non, .non, .non, .non, .non] _
  obtain ⟨xs, ex, exl, hxs⟩ := numbers_ok (ns.getD 1 0) many hmle
  have hivb : iv xs 0 < 2 ^ 450 := Nat.lt_of_lt_of_le (iv_bound xs hxs) (Nat.pow_le_pow_right (by decide) (by omega))
  have hxp : ∀ z ∈ xs, 0 < z := fun z hz => (hxs z hz).1
  obtain ⟨ys, ey, cy, iy, ly⟩ := lgathered_ok xs (by omega) hxp hivb
  have gat : ∀ zs : List Int, zs.length ≤ 20 → (∀ z ∈ zs, 0 < z) → (∀ t, iv zs t = iv xs t) → f_gathered [.lst (zs.map D.int)] = some (.ret (.lst (ys.map D.int))) := fun zs h1 h2 h3 => by
    obtain ⟨ws, ew, cw, iw⟩ := gathered_ok zs h1 h2 (by rw [h3]; exact hivb)
    have : ws = ys := cw.uniq cy fun t => by rw [iw, h3, iy]
    rw [ew, this]
  have kf : ∀ zs : List Int, (some (D.lst (zs.map D.int))).filter D.kidsFlat = some (D.lst (zs.map D.int)) := fun zs => by
    rw [Option.filter_some, if_pos]
    show D.isFlatL _ = true
    rw [isFlatL_all]; simp [D.isFlat]
  obtain ⟨X, hX⟩ : ∃ X, X = D.lst (xs.map D.int) := ⟨_, rfl⟩
  obtain ⟨Y, hY⟩ : ∃ Y, Y = D.lst (ys.map D.int) := ⟨_, rfl⟩
  have kX : (some X).filter D.kidsFlat = some X := by rw [hX]; exact kf xs
  have kY : (some Y).filter D.kidsFlat = some Y := by rw [hY]; exact kf ys
  have gX : f_gathered [X] = some (.ret Y) := by rw [hX, hY]; exact gat xs (by omega) hxp fun _ => rfl
  have gY : f_gathered [Y] = some (.ret Y) := by
    rw [hY]; exact gat ys (by omega) (fun z hz => by have := cy.gt z hz; omega) iy
  have good : f__law_good [Y, Y] = some (.ret (.bl true)) := by rw [hY]; exact good_ok ys
  unfold m_law_2
  refine Go.set (d := X) ?_ ?_
  · rw [← hX] at ex
    simp only [eChk_s, eCall_s, aCons_s, aNil_s, eVar_s, eC_s, List.getElem?_cons_zero, List.getElem?_cons_succ, ob_some, c1, asRet_s, ex, kX]
  show Go m_law_3 [S, H, .int (many : Nat), X, .non, .non, .non, .non, .non] _
  unfold m_law_3
  refine Go.set (d := Y) ?_ ?_
  · rw [← hX, ← hY] at ey
    simp only [eChk_s, eCall_s, aCons_s, aNil_s, eVar_s, eC_s, List.getElem?_cons_zero, List.getElem?_cons_succ, ob_some, asRet_s, ey, kY]
  show Go m_law_4 [S, H, .int (many : Nat), X, Y, .non, .non, .non, .non] _
  unfold m_law_4
  refine Go.set (d := X) ?_ ?_
  · have : dList [X] = some X := by rw [hX]; rfl
    simp only [eP_s, aCons_s, aNil_s, eVar_s, List.getElem?_cons_zero, List.getElem?_cons_succ, ob_some, this]
  show Go m_law_5 [S, H, .int (many : Nat), X, Y, X, .non, .non, .non] _
  unfold m_law_5
  refine Go.set (d := Y) (by simp only [eChk_s, eCall_s, aCons_s, aNil_s, eVar_s, List.getElem?_cons_zero, List.getElem?_cons_succ, ob_some, asRet_s, gX, kY]) ?_
  show Go m_law_6 [S, H, .int (many : Nat), X, Y, X, Y, .non, .non] _
  unfold m_law_6
  refine Go.no ?_ ?_
  · have en : dNe [X, X] = some (.bl (decide (xs ≠ xs))) := by rw [hX]; exact ne_ints
    simp only [wOr_s, wNot_s, tOf_s, eCall_s, eP_s, aCons_s, aNil_s, eVar_s, List.getElem?_cons_zero, List.getElem?_cons_succ, ob_some, good, asRet_s, en, asB_s]
    simp
  unfold m_law_7
  refine Go.mut (y := .int 5) (x := Y) (z := .lst ((ys ++ [5]).map D.int)) rfl rfl ?_ ?_
  · rw [hY, dPush_s (by simp; omega)]
    simp
  show Go m_law_8 [S, H, .int (many : Nat), X, Y, X, .lst ((ys ++ [5]).map D.int), .non, .non] _
  unfold m_law_8
  obtain ⟨at', hat, hatl⟩ : ∃ a : Nat, a2 % ((many : Int) + 1) = (a : Int) ∧ a ≤ many := by
    have q1 := Int.emod_nonneg a2 (b := (many : Int) + 1) (by omega)
    have q2 := Int.emod_lt_of_pos a2 (b := (many : Int) + 1) (by omega)
    exact ⟨(a2 % ((many : Int) + 1)).toNat, (Int.toNat_of_nonneg q1).symm, by omega⟩
  refine Go.set (d := .int (at' : Nat)) ?_ ?_
  · simp only [eP_s, aCons_s, aNil_s, eVar_s, eC_s, eChk_s, List.getElem?_cons_zero, List.getElem?_cons_succ, ob_some, h2, Option.filter_some, fl_int, if_true, dI2_s, dMod_s (show (0 : Int) < (many : Int) + 1 by omega), hat]
  show Go m_law_9 [S, H, .int (many : Nat), X, Y, X, .lst ((ys ++ [5]).map D.int), .int (at' : Nat), .non] _
  unfold m_law_9
  obtain ⟨os, hos⟩ : ∃ os : List Int, os = xs.drop at' ++ [1] ++ (xs.take at').reverse := ⟨_, rfl⟩
  have eo : (eP dCatF (aCons (eP dCatF (aCons (eSl (eChk D.isLst (eVar 3)) (oSome (eVar 7)) oNone) (aCons (eLst (aCons (eC (.int 1)) aNil)) aNil))) (aCons (eP dStepN (aCons (eSl (eChk D.isLst (eVar 3)) oNone (oSome (eVar 7))) (aCons (eP dNeg (aCons (eC (.int 1)) aNil)) aNil))) aNil))) [S, H, .int (many : Nat), X, Y, X, .lst ((ys ++ [5]).map D.int), .int (at' : Nat), .non] = some (.lst (os.map D.int)) := by
    have eX : (some X).filter D.isLst = some (.lst (xs.map D.int)) := by rw [hX]; rfl
    simp only [eP_s, aCons_s, aNil_s, eSl_s, eChk_s, oSome_s, oNone_s, eLst_s, eVar_s, eC_s, List.getElem?_cons_zero, List.getElem?_cons_succ, ob_some, eX, dSl_l, cutG_map]
    have s1 : cutG xs (some (at' : Int)) none = xs.drop at' := by
      unfold cutG
      have e1 : HT.sIx xs.length 0 (some (at' : Int)) = at' := by
        simp only [HT.sIx]
        rw [if_neg (by omega)]
        omega
      rw [e1]
      apply List.take_of_length_le
      simp [HT.sIx]
    have s2 : cutG xs none (some (at' : Int)) = xs.take at' := by
      unfold cutG
      have e1 : HT.sIx xs.length xs.length (some (at' : Int)) = at' := by
        simp only [HT.sIx]
        rw [if_neg (by omega)]
        omega
      rw [e1]
      simp [HT.sIx]
    rw [s1, s2]
    have k1 : dNeg [.int 1] = some (.int (-1)) := rfl
    rw [k1]
    simp only [ob_some]
    have k2 : dStepN [.lst ((xs.take at').map D.int), .int (-1)] = some (.lst ((xs.take at').reverse.map D.int)) := by
      unfold dStepN
      dsimp only
      rw [if_pos ⟨by decide, flL_ints⟩, pick_rev, List.map_reverse]
    rw [k2]
    simp only [ob_some]
    have k3 : dCatF [.lst ((xs.drop at').map D.int), .lst [.int 1]] = some (.lst ((xs.drop at' ++ [1]).map D.int)) := by
      unfold dCatF
      dsimp only
      rw [if_pos ⟨flL_ints, rfl, by simp; omega⟩, List.map_append]
      rfl
    rw [k3]
    simp only [ob_some]
    unfold dCatF
    dsimp only
    rw [if_pos ⟨flL_ints, flL_ints, by simp; omega⟩, ← List.map_append, hos]
  refine Go.set eo ?_
  show Go m_law_10 [S, H, .int (many : Nat), X, Y, X, .lst ((ys ++ [5]).map D.int), .int (at' : Nat), .lst (os.map D.int)] _
  have gO : f_gathered [.lst (os.map D.int)] = some (.ret Y) := by
    rw [hY]
    refine gat os ?_ (fun z hz => ?_) fun t => ?_
    · rw [hos]; simp; omega
    · rw [hos] at hz
      rcases List.mem_append.mp hz with hz | hz
      · rcases List.mem_append.mp hz with hz | hz
        · exact hxp z (List.mem_of_mem_drop hz)
        · rw [List.mem_singleton.mp hz]; decide
      · exact hxp z (List.mem_of_mem_take (List.mem_reverse.mp hz))
    · rw [hos, iv_append, iv_append, iv_reverse]
      have : iv [1] t = 1 := by show Nat.gcd 1 t * 1 = 1; simp
      rw [this, Nat.mul_one, Nat.mul_comm, ← iv_append, List.take_append_drop]
  unfold m_law_10
  refine Go.ret (d := .bl true) ?_ rfl
  simp only [vAnd_s, eCall_s, eChk_s, aCons_s, aNil_s, eVar_s, List.getElem?_cons_zero, List.getElem?_cons_succ, ob_some, gX, gY, gO, asRet_s, kY, good, asB_s, if_true]
end K42

/-! ## K42h -/
namespace K42
open PySem PySem.Spec PyProof.Rows L2 VV VP
def dd__law_row : He.DefD := ⟨("_law_row", none), "_law_row", "_law_row", defArgs s__law_row, defBody s__law_row, defScope s__law_row, [], []⟩
def dd__law_numbers : He.DefD := ⟨("_law_numbers", none), "_law_numbers", "_law_numbers", defArgs s__law_numbers, defBody s__law_numbers, defScope s__law_numbers, [], []⟩
def dd__law_common : He.DefD := ⟨("_law_common", none), "_law_common", "_law_common", defArgs s__law_common, defBody s__law_common, defScope s__law_common, [], []⟩
def dd__law_gathered : He.DefD := ⟨("_law_gathered", none), "_law_gathered", "_law_gathered", defArgs s__law_gathered, defBody s__law_gathered, defScope s__law_gathered, [], []⟩
def dd_unit : He.DefD := ⟨("unit", none), "unit", "unit", defArgs s_unit, defBody s_unit, defScope s_unit, [], []⟩
def dd_Form_init : He.DefD := ⟨("Form", some "__init__"), "__init__", "Form.__init__", defArgs s_Form_init, defBody s_Form_init, defScope s_Form_init, [], []⟩
def dd_Form_least_from : He.DefD := ⟨("Form", some "least_from"), "least_from", "Form.least_from", defArgs s_Form_least_from, defBody s_Form_least_from, defScope s_Form_least_from, [], []⟩
def dd_swap_rows : He.DefD := ⟨("swap_rows", none), "swap_rows", "swap_rows", defArgs s_swap_rows, defBody s_swap_rows, defScope s_swap_rows, [], []⟩
def dd_swap_columns : He.DefD := ⟨("swap_columns", none), "swap_columns", "swap_columns", defArgs s_swap_columns, defBody s_swap_columns, defScope s_swap_columns, [], []⟩
def dd_Form_swap_down : He.DefD := ⟨("Form", some "swap_down"), "swap_down", "Form.swap_down", defArgs s_Form_swap_down, defBody s_Form_swap_down, defScope s_Form_swap_down, [], []⟩
def dd_Form_swap_over : He.DefD := ⟨("Form", some "swap_over"), "swap_over", "Form.swap_over", defArgs s_Form_swap_over, defBody s_Form_swap_over, defScope s_Form_swap_over, [], []⟩
def dd_Form_bring : He.DefD := ⟨("Form", some "bring"), "bring", "Form.bring", defArgs s_Form_bring, defBody s_Form_bring, defScope s_Form_bring, [], []⟩
def dd_add_row : He.DefD := ⟨("add_row", none), "add_row", "add_row", defArgs s_add_row, defBody s_add_row, defScope s_add_row, [], []⟩
def dd_add_column : He.DefD := ⟨("add_column", none), "add_column", "add_column", defArgs s_add_column, defBody s_add_column, defScope s_add_column, [], []⟩
def dd_Form_add_down : He.DefD := ⟨("Form", some "add_down"), "add_down", "Form.add_down", defArgs s_Form_add_down, defBody s_Form_add_down, defScope s_Form_add_down, [], []⟩
def dd_Form_clear_down : He.DefD := ⟨("Form", some "clear_down"), "clear_down", "Form.clear_down", defArgs s_Form_clear_down, defBody s_Form_clear_down, defScope s_Form_clear_down, [], []⟩
def dd_Form_add_over : He.DefD := ⟨("Form", some "add_over"), "add_over", "Form.add_over", defArgs s_Form_add_over, defBody s_Form_add_over, defScope s_Form_add_over, [], []⟩
def dd_Form_clear_over : He.DefD := ⟨("Form", some "clear_over"), "clear_over", "Form.clear_over", defArgs s_Form_clear_over, defBody s_Form_clear_over, defScope s_Form_clear_over, [], []⟩
def dd_Form_odd_row : He.DefD := ⟨("Form", some "odd_row"), "odd_row", "Form.odd_row", defArgs s_Form_odd_row, defBody s_Form_odd_row, defScope s_Form_odd_row, [], []⟩
def dd_Form_is_clear : He.DefD := ⟨("Form", some "is_clear"), "is_clear", "Form.is_clear", defArgs s_Form_is_clear, defBody s_Form_is_clear, defScope s_Form_is_clear, [], []⟩
def dd_Form_settle : He.DefD := ⟨("Form", some "settle"), "settle", "Form.settle", defArgs s_Form_settle, defBody s_Form_settle, defScope s_Form_settle, [], []⟩
def dd_Form_turn_down : He.DefD := ⟨("Form", some "turn_down"), "turn_down", "Form.turn_down", defArgs s_Form_turn_down, defBody s_Form_turn_down, defScope s_Form_turn_down, [], []⟩
def dd_Form_run : He.DefD := ⟨("Form", some "run"), "run", "Form.run", defArgs s_Form_run, defBody s_Form_run, defScope s_Form_run, [], []⟩
def dd_plain_form : He.DefD := ⟨("plain_form", none), "plain_form", "plain_form", defArgs s_plain_form, defBody s_plain_form, defScope s_plain_form, [], []⟩
def dd_divisors : He.DefD := ⟨("divisors", none), "divisors", "divisors", defArgs s_divisors, defBody s_divisors, defScope s_divisors, [], []⟩
def dd_gathered : He.DefD := ⟨("gathered", none), "gathered", "gathered", defArgs s_gathered, defBody s_gathered, defScope s_gathered, [], []⟩
def dd__law_cell_at : He.DefD := ⟨("_law_cell_at", none), "_law_cell_at", "_law_cell_at", defArgs s__law_cell_at, defBody s__law_cell_at, defScope s__law_cell_at, [], []⟩
def dd__law_good : He.DefD := ⟨("_law_good", none), "_law_good", "_law_good", defArgs s__law_good, defBody s__law_good, defScope s__law_good, [], []⟩
def dd_law : He.DefD := ⟨("law", none), "law", "law", defArgs s_law, defBody s_law, defScope s_law, [], []⟩
def fnD : List He.DefD := [dd__law_row, dd__law_numbers, dd__law_common, dd__law_gathered, dd_unit, dd_Form_init, dd_Form_least_from, dd_swap_rows, dd_swap_columns, dd_Form_swap_down, dd_Form_swap_over, dd_Form_bring, dd_add_row, dd_add_column, dd_Form_add_down, dd_Form_clear_down, dd_Form_add_over, dd_Form_clear_over, dd_Form_odd_row, dd_Form_is_clear, dd_Form_settle, dd_Form_turn_down, dd_Form_run, dd_plain_form, dd_divisors, dd_gathered, dd__law_cell_at, dd__law_good, dd_law]
def faD : List He.Fa := [.glo "_law_row", .glo "_law_numbers", .glo "_law_common", .glo "_law_gathered", .glo "unit", .glo "Form", .cls "Form", .mkr "Form", .meth "Form" "least_from", .glo "swap_rows", .glo "swap_columns", .meth "Form" "swap_down", .meth "Form" "swap_over", .meth "Form" "bring", .glo "add_row", .glo "add_column", .meth "Form" "add_down", .meth "Form" "clear_down", .meth "Form" "add_over", .meth "Form" "clear_over", .meth "Form" "odd_row", .meth "Form" "is_clear", .meth "Form" "settle", .meth "Form" "turn_down", .meth "Form" "run", .glo "plain_form", .glo "divisors", .glo "gathered", .glo "_law_cell_at", .glo "_law_good", .glo "law", .noat "Form" "high", .noat "Form" "left", .noat "Form" "left_back", .noat "Form" "right", .noat "Form" "right_back", .noat "Form" "rows", .noat "Form" "wide", .free "abs", .free "all", .free "bool", .free "enumerate", .free "int", .free "isinstance", .free "len", .free "list", .free "min", .free "range", .free "zip"]
abbrev RR : PySem.W.OpenRow := PySem.W.OpenLaw.row PySem.Challenge.rw_loopcube_k42_divisors_gathered
abbrev hk : PySem.W.Hook := He.hookD 4 faD fnD
def ob (s : PySem.W.SharedT) : He.AlD := He.obsDG 4 faD fnD (HandSHeadRun.getT s)
theorem ob_eq (s : PySem.W.SharedT) : ob s = hk.obs s.abs := He.obsDG_eq (HandSHeadRun.getT_eq s)
theorem run (w : World) : HandSHeadRun.RunEq RR (PySem.W.view RR.prog [19]) hk ob 4000 ["unit", "add_row", "swap_rows", "add_column", "swap_columns", "plain_form", "divisors", "gathered", "_law_cell_at", "_law_row", "_law_common", "_law_gathered", "_law_numbers", "_law_good", "Form", "__name__"] w := by
  intro os
  kernel_rfl
theorem facts {P : Program} {w : World} {K : PySem.W.Frag} {h : Heap} {mg : Str → Option Value} {f : Addr} (X : K.In h) (G : h.Ns mainGlobals mg) (hfa : mg ("law" : Str) = some (.ref f)) (c : He.SaysD faD fnD K) :
    ∃ fd : FuncData, (∀ (s : Shared) (v : Value), BindsTo s fd ⟨[v], []⟩ [("_law_script", v)]) ∧ ∀ base : Heap, K.In base → base.Ns mainGlobals mg → FnOk P w K mg base CX0 9 f fd ["_law_script"] (sp0 ⟨mg, K⟩ f_law 1 .flat) := by
  obtain ⟨fd__law_row, F__law_row⟩ := c.def_ 0 (d := dd__law_row) rfl
  obtain ⟨fd__law_numbers, F__law_numbers⟩ := c.def_ 1 (d := dd__law_numbers) rfl
  obtain ⟨fd__law_common, F__law_common⟩ := c.def_ 2 (d := dd__law_common) rfl
  obtain ⟨fd__law_gathered, F__law_gathered⟩ := c.def_ 3 (d := dd__law_gathered) rfl
  obtain ⟨fd_unit, F_unit⟩ := c.def_ 4 (d := dd_unit) rfl
  obtain ⟨fd_Form_init, F_Form_init⟩ := c.def_ 5 (d := dd_Form_init) rfl
  obtain ⟨fd_Form_least_from, F_Form_least_from⟩ := c.def_ 6 (d := dd_Form_least_from) rfl
  obtain ⟨fd_swap_rows, F_swap_rows⟩ := c.def_ 7 (d := dd_swap_rows) rfl
  obtain ⟨fd_swap_columns, F_swap_columns⟩ := c.def_ 8 (d := dd_swap_columns) rfl
  obtain ⟨fd_Form_swap_down, F_Form_swap_down⟩ := c.def_ 9 (d := dd_Form_swap_down) rfl
  obtain ⟨fd_Form_swap_over, F_Form_swap_over⟩ := c.def_ 10 (d := dd_Form_swap_over) rfl
  obtain ⟨fd_Form_bring, F_Form_bring⟩ := c.def_ 11 (d := dd_Form_bring) rfl
  obtain ⟨fd_add_row, F_add_row⟩ := c.def_ 12 (d := dd_add_row) rfl
  obtain ⟨fd_add_column, F_add_column⟩ := c.def_ 13 (d := dd_add_column) rfl
  obtain ⟨fd_Form_add_down, F_Form_add_down⟩ := c.def_ 14 (d := dd_Form_add_down) rfl
  obtain ⟨fd_Form_clear_down, F_Form_clear_down⟩ := c.def_ 15 (d := dd_Form_clear_down) rfl
  obtain ⟨fd_Form_add_over, F_Form_add_over⟩ := c.def_ 16 (d := dd_Form_add_over) rfl
  obtain ⟨fd_Form_clear_over, F_Form_clear_over⟩ := c.def_ 17 (d := dd_Form_clear_over) rfl
  obtain ⟨fd_Form_odd_row, F_Form_odd_row⟩ := c.def_ 18 (d := dd_Form_odd_row) rfl
  obtain ⟨fd_Form_is_clear, F_Form_is_clear⟩ := c.def_ 19 (d := dd_Form_is_clear) rfl
  obtain ⟨fd_Form_settle, F_Form_settle⟩ := c.def_ 20 (d := dd_Form_settle) rfl
  obtain ⟨fd_Form_turn_down, F_Form_turn_down⟩ := c.def_ 21 (d := dd_Form_turn_down) rfl
  obtain ⟨fd_Form_run, F_Form_run⟩ := c.def_ 22 (d := dd_Form_run) rfl
  obtain ⟨fd_plain_form, F_plain_form⟩ := c.def_ 23 (d := dd_plain_form) rfl
  obtain ⟨fd_divisors, F_divisors⟩ := c.def_ 24 (d := dd_divisors) rfl
  obtain ⟨fd_gathered, F_gathered⟩ := c.def_ 25 (d := dd_gathered) rfl
  obtain ⟨fd__law_cell_at, F__law_cell_at⟩ := c.def_ 26 (d := dd__law_cell_at) rfl
  obtain ⟨fd__law_good, F__law_good⟩ := c.def_ 27 (d := dd__law_good) rfl
  obtain ⟨fd_law, F_law⟩ := c.def_ 28 (d := dd_law) rfl
  have cf_Form : ClsF K mg "Form" := ⟨_, He.glo_ok X G (c.fact 5 (f := .glo "Form") rfl), He.cls_ok (c.fact 6 (f := .cls "Form") rfl)⟩
  have nf_Form_high : NoF K mg "Form" "high" := ⟨_, He.glo_ok X G (c.fact 5 (f := .glo "Form") rfl), He.noat_ok (c.fact 31 (f := .noat "Form" "high") rfl)⟩
  have nf_Form_left : NoF K mg "Form" "left" := ⟨_, He.glo_ok X G (c.fact 5 (f := .glo "Form") rfl), He.noat_ok (c.fact 32 (f := .noat "Form" "left") rfl)⟩
  have nf_Form_left_back : NoF K mg "Form" "left_back" := ⟨_, He.glo_ok X G (c.fact 5 (f := .glo "Form") rfl), He.noat_ok (c.fact 33 (f := .noat "Form" "left_back") rfl)⟩
  have nf_Form_right : NoF K mg "Form" "right" := ⟨_, He.glo_ok X G (c.fact 5 (f := .glo "Form") rfl), He.noat_ok (c.fact 34 (f := .noat "Form" "right") rfl)⟩
  have nf_Form_right_back : NoF K mg "Form" "right_back" := ⟨_, He.glo_ok X G (c.fact 5 (f := .glo "Form") rfl), He.noat_ok (c.fact 35 (f := .noat "Form" "right_back") rfl)⟩
  have nf_Form_rows : NoF K mg "Form" "rows" := ⟨_, He.glo_ok X G (c.fact 5 (f := .glo "Form") rfl), He.noat_ok (c.fact 36 (f := .noat "Form" "rows") rfl)⟩
  have nf_Form_wide : NoF K mg "Form" "wide" := ⟨_, He.glo_ok X G (c.fact 5 (f := .glo "Form") rfl), He.noat_ok (c.fact 37 (f := .noat "Form" "wide") rfl)⟩
  have b_abs : mg "abs" = none := He.free_ok X G (c.fact 38 (f := .free "abs") rfl)
  have b_all : mg "all" = none := He.free_ok X G (c.fact 39 (f := .free "all") rfl)
  have b_bool : mg "bool" = none := He.free_ok X G (c.fact 40 (f := .free "bool") rfl)
  have b_enumerate : mg "enumerate" = none := He.free_ok X G (c.fact 41 (f := .free "enumerate") rfl)
  have b_int : mg "int" = none := He.free_ok X G (c.fact 42 (f := .free "int") rfl)
  have b_isinstance : mg "isinstance" = none := He.free_ok X G (c.fact 43 (f := .free "isinstance") rfl)
  have b_len : mg "len" = none := He.free_ok X G (c.fact 44 (f := .free "len") rfl)
  have b_list : mg "list" = none := He.free_ok X G (c.fact 45 (f := .free "list") rfl)
  have b_min : mg "min" = none := He.free_ok X G (c.fact 46 (f := .free "min") rfl)
  have b_range : mg "range" = none := He.free_ok X G (c.fact 47 (f := .free "range") rfl)
  have b_zip : mg "zip" = none := He.free_ok X G (c.fact 48 (f := .free "zip") rfl)
  have e := hfa.symm.trans (He.glo_ok X G (c.fact 30 (f := .glo "law") rfl))
  cases e
  have bb := FunD.bindsA (ps := ["_law_script"]) F_law fun _ _ _ _ _ _ us hl => match us, hl with | [_], _ => rfl
  refine ⟨fd_law, fun s v => bb s [v] rfl, fun base _ _ => ?_⟩
  have c__law_row : Cal P w K mg base "_law_row" 1 ["_law_cell", "_law_many", "_law_base"] f__law_row .fresh := cal__law_row F__law_row (He.glo_ok X G (c.fact 0 (f := .glo "_law_row") rfl)) b_range
  have c__law_numbers : Cal P w K mg base "_law_numbers" 2 ["_law_cell", "_law_many"] f__law_numbers .fresh := cal__law_numbers F__law_numbers (He.glo_ok X G (c.fact 1 (f := .glo "_law_numbers") rfl)) b_enumerate c__law_row
  have c__law_common : Cal P w K mg base "_law_common" 1 ["_law_one", "_law_other"] f__law_common .flat := cal__law_common F__law_common (He.glo_ok X G (c.fact 2 (f := .glo "_law_common") rfl))
  have c__law_gathered : Cal P w K mg base "_law_gathered" 2 ["_law_numbers_here"] f__law_gathered .fresh := cal__law_gathered F__law_gathered (He.glo_ok X G (c.fact 3 (f := .glo "_law_gathered") rfl)) b_len b_list b_range c__law_common
  have c_unit : Cal P w K mg base "unit" 1 ["many"] f_unit .fresh := cal_unit F_unit (He.glo_ok X G (c.fact 4 (f := .glo "unit") rfl)) b_int b_range
  have ci_Form : CalI P w K mg base "Form" 2 ["self", "one"] f_Form_init := cal_Form_init F_Form_init (He.glo_ok X G (c.fact 5 (f := .glo "Form") rfl)) (He.mkr_ok (c.fact 7 (f := .mkr "Form") rfl)) cf_Form nf_Form_high nf_Form_left nf_Form_left_back nf_Form_right nf_Form_right_back nf_Form_rows nf_Form_wide b_list c_unit
  have cm_Form_least_from : CalM P w K mg base "Form" "least_from" 1 ["self", "k"] f_Form_least_from .flat := cal_Form_least_from F_Form_least_from (He.glo_ok X G (c.fact 5 (f := .glo "Form") rfl)) (He.cls_ok (c.fact 6 (f := .cls "Form") rfl)) (He.meth_ok (c.fact 8 (f := .meth "Form" "least_from") rfl)) cf_Form nf_Form_high nf_Form_rows nf_Form_wide b_abs b_range
  have cfo_swap_rows : CalFO P w K mg base "swap_rows" 1 ["rows", "i", "j"] f_swap_rows := cal_swap_rows F_swap_rows (He.glo_ok X G (c.fact 9 (f := .glo "swap_rows") rfl))
  have cfo_swap_columns : CalFO P w K mg base "swap_columns" 1 ["rows", "i", "j"] f_swap_columns := cal_swap_columns F_swap_columns (He.glo_ok X G (c.fact 10 (f := .glo "swap_columns") rfl))
  have cmo_Form_swap_down : CalMO P w K mg base "Form" "swap_down" 2 ["self", "i", "j"] f_Form_swap_down := cal_Form_swap_down F_Form_swap_down (He.glo_ok X G (c.fact 5 (f := .glo "Form") rfl)) (He.cls_ok (c.fact 6 (f := .cls "Form") rfl)) (He.meth_ok (c.fact 11 (f := .meth "Form" "swap_down") rfl)) cf_Form nf_Form_left nf_Form_left_back nf_Form_rows cfo_swap_rows cfo_swap_columns
  have cmo_Form_swap_over : CalMO P w K mg base "Form" "swap_over" 2 ["self", "i", "j"] f_Form_swap_over := cal_Form_swap_over F_Form_swap_over (He.glo_ok X G (c.fact 5 (f := .glo "Form") rfl)) (He.cls_ok (c.fact 6 (f := .cls "Form") rfl)) (He.meth_ok (c.fact 12 (f := .meth "Form" "swap_over") rfl)) cf_Form nf_Form_right nf_Form_right_back nf_Form_rows cfo_swap_columns cfo_swap_rows
  have cmo_Form_bring : CalMO P w K mg base "Form" "bring" 3 ["self", "k", "place"] f_Form_bring := cal_Form_bring F_Form_bring (He.glo_ok X G (c.fact 5 (f := .glo "Form") rfl)) (He.cls_ok (c.fact 6 (f := .cls "Form") rfl)) (He.meth_ok (c.fact 13 (f := .meth "Form" "bring") rfl)) cmo_Form_swap_down cmo_Form_swap_over
  have cfo_add_row : CalFO P w K mg base "add_row" 1 ["rows", "i", "j", "times"] f_add_row := cal_add_row F_add_row (He.glo_ok X G (c.fact 14 (f := .glo "add_row") rfl)) b_zip
  have cfo_add_column : CalFO P w K mg base "add_column" 1 ["rows", "i", "j", "times"] f_add_column := cal_add_column F_add_column (He.glo_ok X G (c.fact 15 (f := .glo "add_column") rfl))
  have cmo_Form_add_down : CalMO P w K mg base "Form" "add_down" 2 ["self", "i", "j", "times"] f_Form_add_down := cal_Form_add_down F_Form_add_down (He.glo_ok X G (c.fact 5 (f := .glo "Form") rfl)) (He.cls_ok (c.fact 6 (f := .cls "Form") rfl)) (He.meth_ok (c.fact 16 (f := .meth "Form" "add_down") rfl)) cf_Form nf_Form_left nf_Form_left_back nf_Form_rows cfo_add_row cfo_add_column
  have cmo_Form_clear_down : CalMO P w K mg base "Form" "clear_down" 3 ["self", "k"] f_Form_clear_down := cal_Form_clear_down F_Form_clear_down (He.glo_ok X G (c.fact 5 (f := .glo "Form") rfl)) (He.cls_ok (c.fact 6 (f := .cls "Form") rfl)) (He.meth_ok (c.fact 17 (f := .meth "Form" "clear_down") rfl)) cf_Form nf_Form_high nf_Form_rows b_range cmo_Form_add_down
  have cmo_Form_add_over : CalMO P w K mg base "Form" "add_over" 2 ["self", "i", "j", "times"] f_Form_add_over := cal_Form_add_over F_Form_add_over (He.glo_ok X G (c.fact 5 (f := .glo "Form") rfl)) (He.cls_ok (c.fact 6 (f := .cls "Form") rfl)) (He.meth_ok (c.fact 18 (f := .meth "Form" "add_over") rfl)) cf_Form nf_Form_right nf_Form_right_back nf_Form_rows cfo_add_column cfo_add_row
  have cmo_Form_clear_over : CalMO P w K mg base "Form" "clear_over" 3 ["self", "k"] f_Form_clear_over := cal_Form_clear_over F_Form_clear_over (He.glo_ok X G (c.fact 5 (f := .glo "Form") rfl)) (He.cls_ok (c.fact 6 (f := .cls "Form") rfl)) (He.meth_ok (c.fact 19 (f := .meth "Form" "clear_over") rfl)) cf_Form nf_Form_rows nf_Form_wide b_range cmo_Form_add_over
  have cm_Form_odd_row : CalM P w K mg base "Form" "odd_row" 1 ["self", "k"] f_Form_odd_row .flat := cal_Form_odd_row F_Form_odd_row (He.glo_ok X G (c.fact 5 (f := .glo "Form") rfl)) (He.cls_ok (c.fact 6 (f := .cls "Form") rfl)) (He.meth_ok (c.fact 20 (f := .meth "Form" "odd_row") rfl)) cf_Form nf_Form_high nf_Form_rows b_range
  have cm_Form_is_clear : CalM P w K mg base "Form" "is_clear" 1 ["self", "k"] f_Form_is_clear .flat := cal_Form_is_clear F_Form_is_clear (He.glo_ok X G (c.fact 5 (f := .glo "Form") rfl)) (He.cls_ok (c.fact 6 (f := .cls "Form") rfl)) (He.meth_ok (c.fact 21 (f := .meth "Form" "is_clear") rfl)) cf_Form nf_Form_high nf_Form_rows b_all b_range
  have cmo_Form_settle : CalMO P w K mg base "Form" "settle" 4 ["self", "k"] f_Form_settle := cal_Form_settle F_Form_settle (He.glo_ok X G (c.fact 5 (f := .glo "Form") rfl)) (He.cls_ok (c.fact 6 (f := .cls "Form") rfl)) (He.meth_ok (c.fact 22 (f := .meth "Form" "settle") rfl)) cmo_Form_clear_down cmo_Form_clear_over cm_Form_is_clear cmo_Form_bring cm_Form_least_from cm_Form_odd_row cmo_Form_add_down
  have cmo_Form_turn_down : CalMO P w K mg base "Form" "turn_down" 2 ["self", "i"] f_Form_turn_down := cal_Form_turn_down F_Form_turn_down (He.glo_ok X G (c.fact 5 (f := .glo "Form") rfl)) (He.cls_ok (c.fact 6 (f := .cls "Form") rfl)) (He.meth_ok (c.fact 23 (f := .meth "Form" "turn_down") rfl)) cf_Form nf_Form_left nf_Form_left_back nf_Form_rows cfo_add_row cfo_add_column
  have cmo_Form_run : CalMO P w K mg base "Form" "run" 5 ["self"] f_Form_run := cal_Form_run F_Form_run (He.glo_ok X G (c.fact 5 (f := .glo "Form") rfl)) (He.cls_ok (c.fact 6 (f := .cls "Form") rfl)) (He.meth_ok (c.fact 24 (f := .meth "Form" "run") rfl)) cf_Form nf_Form_high nf_Form_rows nf_Form_wide b_min b_range cm_Form_least_from cmo_Form_bring cmo_Form_settle cmo_Form_turn_down
  have c_plain_form : Cal P w K mg base "plain_form" 6 ["one"] f_plain_form .news := cal_plain_form F_plain_form (He.glo_ok X G (c.fact 25 (f := .glo "plain_form") rfl)) cf_Form nf_Form_left nf_Form_left_back nf_Form_right nf_Form_right_back nf_Form_rows cmo_Form_run ci_Form
  have c_divisors : Cal P w K mg base "divisors" 7 ["one"] f_divisors .fresh := cal_divisors F_divisors (He.glo_ok X G (c.fact 26 (f := .glo "divisors") rfl)) b_min b_range c_plain_form
  have c_gathered : Cal P w K mg base "gathered" 8 ["numbers"] f_gathered .fresh := cal_gathered F_gathered (He.glo_ok X G (c.fact 27 (f := .glo "gathered") rfl)) b_int b_len b_range c_divisors
  have c__law_cell_at : Cal P w K mg base "_law_cell_at" 1 ["_law_script", "_law_k"] f__law_cell_at .flat := cal__law_cell_at F__law_cell_at (He.glo_ok X G (c.fact 28 (f := .glo "_law_cell_at") rfl)) b_len
  have c__law_good : Cal P w K mg base "_law_good" 1 ["_law_found", "_law_due"] f__law_good .flat := cal__law_good F__law_good (He.glo_ok X G (c.fact 29 (f := .glo "_law_good") rfl)) b_bool b_int b_isinstance b_list
  exact ok_law F_law b_int b_list c__law_row c__law_cell_at c__law_numbers c__law_gathered c_gathered c__law_good
end K42
open PySem PySem.W PySem.Calls PyProof.Rows
set_option maxRecDepth 100000 in
set_option maxHeartbeats 0 in
theorem PySem.Challenge.cw_loopcube_k42_divisors_gathered_holds : PySem.Challenge.rw_loopcube_k42_divisors_gathered.Holds := by
  w_on; o_law
  refine HandSHeadRun.head_any (r := OpenLaw.row PySem.Challenge.rw_loopcube_k42_divisors_gathered) (q := view (OpenLaw.row PySem.Challenge.rw_loopcube_k42_divisors_gathered).prog [19]) (H := K42.hk) (ob := K42.ob) (M := 4000) (loose := ["unit", "add_row", "swap_rows", "add_column", "swap_columns", "plain_form", "divisors", "gathered", "_law_cell_at", "_law_row", "_law_common", "_law_gathered", "_law_numbers", "_law_good", "Form", "__name__"]) (d := HandSHeadRun.topDef (OpenLaw.row PySem.Challenge.rw_loopcube_k42_divisors_gathered).prog 19) (kwd := []) K42.ob_eq
    (by kernel_rfl) (fun s => by kernel_rfl) K42.run (by kernel_rfl) (by kernel_rfl) (by kernel_rfl) (by rfl) (by first | assumption | decide +kernel) (by decide +kernel) ⟨rfl, rfl, rfl, rfl, rfl, by decide +kernel⟩ ?hw ?hc
  case hw => w_witness2
  case hc =>
    refine VV.walk_V (l := PySem.Challenge.rw_loopcube_k42_divisors_gathered) (n := 63) (k := 9) (x := "_law_script") (sem := K42.f_law) (R := .flat) rfl (by decide) (by kernel_rfl) ⟨rfl, by decide, by decide⟩ K42.law_true ?F
    intro w mg fa h Y G hmg0
    obtain ⟨K, KX, c⟩ := Y
    have hmg : mg ("law" : PySem.Str) = some (.ref fa) := by
      have e : (HandSHeadRun.topDef (OpenLaw.row PySem.Challenge.rw_loopcube_k42_divisors_gathered).prog 19).name = ("law" : PySem.Str) := by kernel_rfl
      rw [← e]
      exact hmg0
    obtain ⟨fd, hb, hF⟩ := K42.facts (P := (PySem.Challenge.rw_loopcube_k42_divisors_gathered).prog) (w := w) KX G hmg c
    exact ⟨K, fd, KX, hb, hF⟩
