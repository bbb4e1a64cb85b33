import PyProof.Rows.All
import Wide.All
import OpenK.AllK
import Wide.FinOn
import KE.KStateDown
import Lean
import HandS.ForMost
import HandS.ForExc
import KE.KeyNested
import HandS.Wide
import HandS.WideBits
import HandS.Text
import HandS.Defaults
import HandS.TupAny
import HandS.NoneIn
import HandS.EndBits
import HandS.HeadEnd
import HandS.Head0
import HandS.Head1
import HandS.Head2
import HandS.HeadHook1
import HandS.HeadHook2
import HandS.DeepEq
import HandS.More
import HandS.DictComp
import HandS.IsInst
import HandS.ExcOwn
import HandS.ExcIs
import HandS.CallLocal
import HandS.HotCalls
import HandS.ExcCtx
import KE.SortData
import KE.DataFind
import HandS.Conv
import HandS.Deep
import HandS.SetFor
import HandS.Strs
import HandS.Zip
import HandS.TupMul
import HandS.SetKeys
import KE.GoesNew
import HandS.Hot
import KE.KIndexOf
import HandS.Sort
import HandS.Finally
import PyProof.ListNew
import PyProof.Rows.TupTab
import HandS.DictTup
import PyProof.ReprLen
import PySem.Challenge.RW_loopcube_k01_what_is_a_table

/-! ## VRep -/
set_option Elab.async false
set_option linter.all false
set_option maxHeartbeats 0
set_option maxRecDepth 100000
namespace VV
open PySem PySem.Spec PyProof.Rows L2

/-- keys of dicts -/
inductive Ky where
  | k (x : Key) | t (xs : List Key)
  deriving DecidableEq

/-- the module's names, the written part -/
structure Mg where
  mg : Str → Option Value
  K : PySem.W.Frag
abbrev _root_.L2.Cx.vm (X : Cx) : Mg := ⟨X.mg, X.K⟩
/-- the script's list -/
def ScrAt (K : PySem.W.Frag) (H : Hp) (a : Addr) (xs : List V) : Prop := (∃ o, H a = some (.frz o (.lst xs))) ∨
    ∃ (o : Obj) (its : Array Value) (n : Nat), K.lookup a = some o ∧ o.cls = .type "list" ∧ o.dict = none ∧ o.data = .seq its n ∧ its.size ≤ sizeLine ∧ Vals xs its.toList
theorem ScrAt.sq {K : PySem.W.Frag} {H : Hp} {a : Addr} {xs : List V} (h : ScrAt K H a xs) : SqL K H a xs := h.imp .inr id
/-- an entry: the key, where its tuple stands, the value -/
abbrev Ne := NestedKey × Addr × V
def NeR (p : Ne) (q : NestedKey × Addr × Value) : Prop := p.1 = q.1 ∧ p.2.1 = q.2.1 ∧ RelV p.2.2 q.2.2
def NkObj (a : Addr) (xs : List Ne) (h : Heap) : Prop := ((a == sysModules) = false ∧ xs.length ≤ sizeLine ∧ (xs.map (·.1)).Nodup) ∧ ∃ ys : List (NestedKey × Addr × Value), Paired NeR xs ys ∧
  ∃ o es ep, h.get? a = some o ∧ o.ExactDict ∧ o.data = .dict es ep ∧ ∀ w : World, es.toList = ys.map fun y => ⟨y.1.hash w, .ref y.2.1, y.2.2⟩
def nkO (a : Addr) (xs : List Ne) : HO := .ext (NkObj a xs)
/-- a value as a tree -/
inductive D where
  | non | bl (b : Bool) | int (i : Int) | str (s : Str)
  | tup (l : List D) | lst (l : List D)
  /-- the script: a list that is known to the object -/
  | scr (l : List D)
  | dic (tk : Bool) (ks : List Ky) (vs : List D)
  | obj (c : Str) (ns : List Str) (fs : List D)
  | fn (x : Str)
  /-- a tuple of whole numbers that is known to the object, without a dict of its own -/
  | kti (l : List Int)
  /-- a dict whose keys are tuples of whole numbers, truths and such tuples, whose values are flat -/
  | dix (ks : List D) (vs : List D)

mutual
/-- a tree as such a key -/
def D.nk : D → Option NestedKey
  | .int i => some (.num i)
  | .bl b => some (.num (if b = true then 1 else 0))
  | .kti l => some (.tup (l.map .num))
  | .tup l => (D.nkL l).map .tup
  | _ => none
def D.nkL : List D → Option (List NestedKey)
  | [] => some []
  | d :: r => match d.nk, D.nkL r with
    | some k, some ks => some (k :: ks)
    | _, _ => none
end
/-- what stands at a may still be read as before -/
def _root_.L2.HO.bare : HO → Prop
  | .frz _ _ => False
  | _ => True
def Kp (H H' : Hp) (a : Addr) : Prop := (∀ u : HO, u.bare → Rd H a u → Rd H' a u) ∧ (∀ vs, H a = some (.lst vs) → H' a = some (.lst vs)) ∧ ∀ C dx fs, H a = some (.ins C dx fs) → H' a = some (.ins C dx fs)
/-- tuples and the script stay -/
def KpT (H H' : Hp) : Prop := (∀ a xs, H a = some (.tup xs) → H' a = some (.tup xs)) ∧ (∀ a o vs, H a = some (.frz o (.lst vs)) → H' a = some (.frz o (.lst vs))) ∧ ∀ a o vs, H a = some (.frz o (.tup vs)) → H' a = some (.frz o (.tup vs))
/-- the dict at a has these keys and values; tk: its keys are tuples -/
def RdD (H : Hp) (a : Addr) (tk : Bool) (ks : List Ky) (vs : List V) : Prop :=
  (ks.length = vs.length ∧ ks.Nodup) ∧ match tk with
  | false => ∃ kl : List Key, ks = kl.map Ky.k ∧ Rd H a (.dK (kl.zip vs))
  | true => ∃ kl : List (List Key), ks = kl.map Ky.t ∧ Rd H a (.dT (kl.zip vs))

mutual
def Rep (mg : Mg) (H : Hp) : D → V → List Addr → Prop
  | .non, v, fp => v = .non ∧ fp = []
  | .bl b, v, fp => v = .bl b ∧ fp = []
  | .int i, v, fp => v = .int i ∧ fp = []
  | .str s, v, fp => v = .str s ∧ fp = []
  | .fn x, v, fp => (∃ a, v = .ref a ∧ mg.mg x = some (.ref a)) ∧ fp = []
  | .kti l, v, fp => (∃ a o, v = .ref a ∧ H a = some (.frz o (.tup (l.map V.int))) ∧ o.dict = none) ∧ fp = []
  | .dix ks ds, v, fp => ∃ (a : Addr) (xs : List Ne), v = .ref a ∧ (Rd H a (nkO a xs) ∧ D.nkL ks = some (xs.map (·.1)) ∧ ∀ x ∈ xs, x.1.depth ≤ 8) ∧ RepL mg H ks (xs.map fun x => V.ref x.2.1) [] ∧ RepL mg H ds (xs.map fun x => x.2.2) [] ∧ fp = [a]
  | .tup ds, v, fp => ∃ a vs, v = .ref a ∧ H a = some (.tup vs) ∧ RepL mg H ds vs fp
  | .lst ds, v, fp => ∃ a vs f, v = .ref a ∧ H a = some (.lst vs) ∧ RepL mg H ds vs f ∧ fp = a :: f
  | .scr ds, v, fp => ∃ a vs, v = .ref a ∧ ScrAt mg.K H a vs ∧ RepL mg H ds vs [] ∧ fp = []
  | .dic tk ks ds, v, fp => ∃ a vs f, v = .ref a ∧ RdD H a tk ks vs ∧ RepL mg H ds vs f ∧ fp = a :: f
  | .obj c ns ds, v, fp => ∃ a C dx vs f, v = .ref a ∧ mg.mg c = some (.ref C) ∧ ns.length = vs.length ∧ H a = some (.ins C dx (ns.zip vs)) ∧ RepL mg H ds vs f ∧ fp = a :: f
def RepL (mg : Mg) (H : Hp) : List D → List V → List Addr → Prop
  | [], vs, fp => vs = [] ∧ fp = []
  | d :: ds, vs, fp => ∃ v r f1 f2, vs = v :: r ∧ Rep mg H d v f1 ∧ RepL mg H ds r f2 ∧ fp = f1 ++ f2
end

section
variable {mg : Mg} {H H' : Hp}

theorem RepL.length : ∀ {ds : List D} {vs : List V} {fp : List Addr}, RepL mg H ds vs fp → vs.length = ds.length
  | [], _, _, h => by simp only [RepL] at h; rw [h.1]; rfl
  | d :: ds, _, _, h => by
    simp only [RepL] at h
    obtain ⟨v, r, f1, f2, rfl, _, h2, _⟩ := h
    simp [RepL.length h2]

theorem RdD.keep {a : Addr} {tk : Bool} {ks : List Ky} {vs : List V} (h : RdD H a tk ks vs) (k : ∀ u : HO, u.bare → Rd H a u → Rd H' a u) : RdD H' a tk ks vs := by
  obtain ⟨h1, h2⟩ := h
  refine ⟨h1, ?_⟩
  cases tk with
  | false => obtain ⟨kl, e, r⟩ := h2; exact ⟨kl, e, k _ trivial r⟩
  | true => obtain ⟨kl, e, r⟩ := h2; exact ⟨kl, e, k _ trivial r⟩

mutual
theorem Rep.keep : ∀ {d : D} {v : V} {fp : List Addr}, Rep mg H d v fp → (∀ a, a ∈ fp → Kp H H' a) → KpT H H' → Rep mg H' d v fp
  | .non, _, _, h, _, _ => by simp only [Rep] at h ⊢; exact h
  | .bl _, _, _, h, _, _ => by simp only [Rep] at h ⊢; exact h
  | .int _, _, _, h, _, _ => by simp only [Rep] at h ⊢; exact h
  | .str _, _, _, h, _, _ => by simp only [Rep] at h ⊢; exact h
  | .fn _, _, _, h, _, _ => by simp only [Rep] at h ⊢; exact h
  | .dix ks ds, _, _, h, k, kt => by
    simp only [Rep] at h ⊢
    obtain ⟨a, xs, rfl, ⟨r, c1, c2⟩, h1, h2, rfl⟩ := h
    exact ⟨a, xs, rfl, ⟨(k a List.mem_cons_self).1 _ trivial r, c1, c2⟩, RepL.keep h1 (fun b hb => nomatch hb) kt, RepL.keep h2 (fun b hb => nomatch hb) kt, rfl⟩
  | .kti _, _, _, h, _, kt => by
    simp only [Rep] at h ⊢
    obtain ⟨⟨a, o, e, r, d⟩, z⟩ := h
    exact ⟨⟨a, o, e, kt.2.2 a o _ r, d⟩, z⟩
  | .tup ds, _, _, h, k, kt => by
    simp only [Rep] at h ⊢
    obtain ⟨a, vs, rfl, r, h2⟩ := h
    exact ⟨a, vs, rfl, kt.1 a vs r, RepL.keep h2 k kt⟩
  | .lst ds, _, _, h, k, kt => by
    simp only [Rep] at h ⊢
    obtain ⟨a, vs, f, rfl, r, h2, rfl⟩ := h
    exact ⟨a, vs, f, rfl, (k a List.mem_cons_self).2.1 _ r, RepL.keep h2 (fun b hb => k b (List.mem_cons_of_mem _ hb)) kt, rfl⟩
  | .scr ds, _, _, h, k, kt => by
    simp only [Rep] at h ⊢
    obtain ⟨a, vs, rfl, r, h2, rfl⟩ := h
    exact ⟨a, vs, rfl, r.imp (fun ⟨o, r⟩ => ⟨o, kt.2.1 a o vs r⟩) id, RepL.keep h2 (fun b hb => nomatch hb) kt, rfl⟩
  | .dic tk ks ds, _, _, h, k, kt => by
    simp only [Rep] at h ⊢
    obtain ⟨a, vs, f, rfl, r, h2, rfl⟩ := h
    exact ⟨a, vs, f, rfl, r.keep (k a List.mem_cons_self).1, RepL.keep h2 (fun b hb => k b (List.mem_cons_of_mem _ hb)) kt, rfl⟩
  | .obj c ns ds, _, _, h, k, kt => by
    simp only [Rep] at h ⊢
    obtain ⟨a, C, dx, vs, f, rfl, hc, hl, r, h2, rfl⟩ := h
    exact ⟨a, C, dx, vs, f, rfl, hc, hl, (k a List.mem_cons_self).2.2 _ _ _ r, RepL.keep h2 (fun b hb => k b (List.mem_cons_of_mem _ hb)) kt, rfl⟩
theorem RepL.keep : ∀ {ds : List D} {vs : List V} {fp : List Addr}, RepL mg H ds vs fp → (∀ a, a ∈ fp → Kp H H' a) → KpT H H' → RepL mg H' ds vs fp
  | [], _, _, h, _, _ => by simp only [RepL] at h ⊢; exact h
  | d :: ds, _, _, h, k, kt => by
    simp only [RepL] at h ⊢
    obtain ⟨v, r, f1, f2, rfl, h1, h2, rfl⟩ := h
    exact ⟨v, r, f1, f2, rfl, Rep.keep h1 (fun b hb => k b (List.mem_append_left _ hb)) kt, RepL.keep h2 (fun b hb => k b (List.mem_append_right _ hb)) kt, rfl⟩
end


mutual
theorem Rep.there : ∀ {d : D} {v : V} {fp : List Addr}, Rep mg H d v fp → ∀ a ∈ fp, H a ≠ none
  | .non, _, _, h, a, ha => by simp only [Rep] at h; rw [h.2] at ha; cases ha
  | .bl _, _, _, h, a, ha => by simp only [Rep] at h; rw [h.2] at ha; cases ha
  | .int _, _, _, h, a, ha => by simp only [Rep] at h; rw [h.2] at ha; cases ha
  | .str _, _, _, h, a, ha => by simp only [Rep] at h; rw [h.2] at ha; cases ha
  | .fn _, _, _, h, a, ha => by simp only [Rep] at h; rw [h.2] at ha; cases ha
  | .dix ks ds, _, _, h, a, ha => by
    simp only [Rep] at h
    obtain ⟨b, xs, rfl, ⟨r, _⟩, _, _, rfl⟩ := h
    rw [List.mem_singleton.mp ha]
    rcases r with r | ⟨o, r⟩ <;> rw [r] <;> simp
  | .kti _, _, _, h, a, ha => by simp only [Rep] at h; rw [h.2] at ha; cases ha
  | .tup ds, _, _, h, a, ha => by
    simp only [Rep] at h
    obtain ⟨_, vs, rfl, r, h2⟩ := h
    exact RepL.there h2 a ha
  | .lst ds, _, _, h, a, ha => by
    simp only [Rep] at h
    obtain ⟨b, vs, f, rfl, r, h2, rfl⟩ := h
    rcases List.mem_cons.mp ha with rfl | ha
    · rw [r]; simp
    · exact RepL.there h2 a ha
  | .scr ds, _, _, h, a, ha => by
    simp only [Rep] at h
    obtain ⟨b, vs, rfl, r, h2, rfl⟩ := h
    cases ha
  | .dic tk ks ds, _, _, h, a, ha => by
    simp only [Rep] at h
    obtain ⟨b, vs, f, rfl, ⟨_, r⟩, h2, rfl⟩ := h
    rcases List.mem_cons.mp ha with rfl | ha
    · cases tk with
      | false => obtain ⟨_, _, r | ⟨o, r⟩⟩ := r <;> rw [r] <;> simp
      | true => obtain ⟨_, _, r | ⟨o, r⟩⟩ := r <;> rw [r] <;> simp
    · exact RepL.there h2 a ha
  | .obj c ns ds, _, _, h, a, ha => by
    simp only [Rep] at h
    obtain ⟨b, C, dx, vs, f, rfl, _, _, r, h2, rfl⟩ := h
    rcases List.mem_cons.mp ha with rfl | ha
    · rw [r]; simp
    · exact RepL.there h2 a ha
theorem RepL.there : ∀ {ds : List D} {vs : List V} {fp : List Addr}, RepL mg H ds vs fp → ∀ a ∈ fp, H a ≠ none
  | [], _, _, h, a, ha => by simp only [RepL] at h; rw [h.2] at ha; cases ha
  | d :: ds, _, _, h, a, ha => by
    simp only [RepL] at h
    obtain ⟨v, r, f1, f2, rfl, h1, h2, rfl⟩ := h
    rcases List.mem_append.mp ha with ha | ha
    · exact Rep.there h1 a ha
    · exact RepL.there h2 a ha
end

/-- all that stands stands as before -/
def Ext (H H' : Hp) : Prop := ∀ a o, H a = some o → H' a = some o
theorem Ext.refl : Ext H H := fun _ _ h => h
theorem Ext.trans {H1 : Hp} (a : Ext H H1) (b : Ext H1 H') : Ext H H' := fun c o h => b c o (a c o h)
theorem Ext.rd (e : Ext H H') {a : Addr} {u : HO} (r : Rd H a u) : Rd H' a u := by
  rcases r with r | ⟨o, r⟩
  · exact .inl (e a u r)
  · exact .inr ⟨o, e a _ r⟩
theorem Ext.nope (e : Ext H H') {a : Addr} (h : H' a = none) : H a = none := by
  cases q : H a with
  | none => rfl
  | some o => rw [e a o q] at h; cases h
theorem Ext.put {a : Addr} {o : HO} (h : H a = none) : Ext H (upd H a o) := fun b u e => by
  rw [upd_ne (ne_of_none e h)]; exact e
theorem Ext.kp (e : Ext H H') (a : Addr) : Kp H H' a := ⟨fun _ _ r => e.rd r, fun _ r => e a _ r, fun _ _ _ r => e a _ r⟩
theorem Ext.kpT (e : Ext H H') : KpT H H' := ⟨fun a xs r => e a _ r, fun a o vs r => e a _ r, fun a o vs r => e a _ r⟩
theorem Rep.ext {d : D} {v : V} {fp : List Addr} (h : Rep mg H d v fp) (e : Ext H H') : Rep mg H' d v fp := h.keep (fun a _ => e.kp a) e.kpT
theorem RepL.ext {d : List D} {v : List V} {fp : List Addr} (h : RepL mg H d v fp) (e : Ext H H') : RepL mg H' d v fp := h.keep (fun a _ => e.kp a) e.kpT

theorem RepL.get : ∀ {ds : List D} {vs : List V} {fp : List Addr} {i : Nat} {d : D}, RepL mg H ds vs fp → ds[i]? = some d → ∃ v f1 f f2, vs[i]? = some v ∧ Rep mg H d v f ∧ fp = f1 ++ f ++ f2
  | [], _, _, _, _, _, e => by simp at e
  | x :: ds, _, _, 0, d, h, e => by
    simp only [RepL] at h
    obtain ⟨v, r, f1, f2, rfl, h1, h2, rfl⟩ := h
    simp at e; subst e
    exact ⟨v, [], f1, f2, rfl, h1, rfl⟩
  | x :: ds, _, _, i + 1, d, h, e => by
    simp only [RepL] at h
    obtain ⟨v, r, f1, f2, rfl, h1, h2, rfl⟩ := h
    obtain ⟨w, g1, g, g2, e1, e2, rfl⟩ := RepL.get (i := i) (d := d) h2 (by simpa using e)
    exact ⟨w, f1 ++ g1, g, g2, by simpa using e1, e2, by simp [List.append_assoc]⟩

theorem RepL.append : ∀ {ds es : List D} {vs us : List V} {f g : List Addr}, RepL mg H ds vs f → RepL mg H es us g → RepL mg H (ds ++ es) (vs ++ us) (f ++ g)
  | [], _, _, _, _, _, h, h' => by
    simp only [RepL] at h
    obtain ⟨rfl, rfl⟩ := h
    exact h'
  | d :: ds, es, _, us, _, g, h, h' => by
    simp only [RepL] at h
    obtain ⟨v, r, f1, f2, rfl, h1, h2, rfl⟩ := h
    simp only [List.cons_append, RepL]
    exact ⟨v, r ++ us, f1, f2 ++ g, rfl, h1, RepL.append h2 h', by simp [List.append_assoc]⟩
theorem RepL.one {d : D} {v : V} {f : List Addr} (h : Rep mg H d v f) : RepL mg H [d] [v] f := by
  simp only [RepL]
  exact ⟨v, [], f, [], rfl, h, ⟨rfl, rfl⟩, by simp⟩

end
end VV

/-! ## VExp -/
namespace VV
open PySem PySem.Spec PyProof.Rows L2

/-- kinds of slots -/
inductive Kd where
  | dead | flat | lab (rt : Option Nat) (L : List Nat) (nd : Bool)
  /-- the exception that is handled, at a, of the class c -/
  | exc (a : Addr) (c : Str)
  /-- an instance that is being made: its label, the labels below each attribute -/
  | ob (n : Nat) (Ls : List (List Nat))
  deriving DecidableEq
/-- where a result's root comes from -/
inductive Rt where
  | new | old (n : Nat) | unk
  deriving DecidableEq
/-- kinds of results -/
inductive Md where
  | flat | al (fr : Bool) (rt : Rt) (L : List Nat) (nd : Bool)
  deriving DecidableEq

/-- what stands outside (the nodes of the arguments), what is locked for good while a loop walks it -/
structure Fm where
  out : Addr → Prop
  frz : Addr → Prop
def lk (LL : List Nat) (n : Nat) : Prop := n = 0 ∨ n ∈ LL
structure Loc (P : Fm) (LL : List Nat) (g : Addr → Nat) (H : Hp) : Prop where
  at_ : ∀ a, g a ≠ 0 → ∃ o, H a = some o ∧ (Mut (some o) ∨ P.frz a)
  out : ∀ a, P.out a → H a ≠ none
  fz : ∀ a, P.frz a → (∃ o u, H a = some (.frz o u)) ∧ lk LL (g a)

theorem Loc.fzn {P : Fm} {LL : List Nat} {g : Addr → Nat} {H : Hp} (l : Loc P LL g H) {a : Addr} (h : P.frz a) : H a ≠ none := by
  obtain ⟨⟨o, u, q⟩, _⟩ := l.fz a h
  rw [q]; simp

def Old (P : Fm) (g : Addr → Nat) (L : List Nat) (a : Addr) : Prop := g a ∈ L ∧ (g a = 0 → P.out a)
theorem Old.there {P : Fm} {LL : List Nat} {g : Addr → Nat} {H : Hp} {L : List Nat} {a : Addr} (l : Loc P LL g H) (o : Old P g L a) : H a ≠ none := by
  by_cases h : g a = 0
  · exact l.out a (o.2 h)
  · obtain ⟨u, e, _⟩ := l.at_ a h
    rw [e]; simp

/-- made since -/
def New (H H' : Hp) (a : Addr) : Prop := H a = none ∧ Mut (H' a)
/-- no node twice; the root not below itself -/
def Nd (nd kn : Bool) (v : V) (fp : List Addr) : Prop := (nd = true → fp.Nodup) ∧ (kn = true → ∀ a f, v = .ref a → fp = a :: f → a ∉ f)
theorem Nd.of {nd kn : Bool} {v : V} {fp : List Addr} (h : fp.Nodup) : Nd nd kn v fp := ⟨fun _ => h, fun _ a f _ e => by subst e; exact (List.nodup_cons.mp h).1⟩
theorem Nd.cons {nd kn : Bool} {p : Addr} {fp : List Addr} (h : p ∉ fp) (n : nd = true → fp.Nodup) : Nd nd kn (.ref p) (p :: fp) :=
  ⟨fun x => List.nodup_cons.mpr ⟨h, n x⟩, fun _ a f e1 e2 => by cases e2; exact h⟩
theorem Nd.unk {nd : Bool} {v : V} {fp : List Addr} (n : nd = true → fp.Nodup) : Nd nd false v fp := ⟨n, fun z => nomatch z⟩
def Rt.known : Rt → Bool
  | .unk => false
  | _ => true
/-- trees, values and nodes, one by one -/
def RepS (R : D → V → List Addr → Prop) : List D → List V → List (List Addr) → Prop
  | [], [], [] => True
  | d :: ds, v :: vs, f :: fs => R d v f ∧ RepS R ds vs fs
  | _, _, _ => False
def FpS (R : Addr → List Nat → Prop) : List (List Addr) → List (List Nat) → Prop
  | [], [] => True
  | f :: fs, L :: Ls => (∀ b ∈ f, R b L) ∧ FpS R fs Ls
  | _, _ => False
theorem RepS.mono {R R' : D → V → List Addr → Prop} : ∀ {ds : List D} {vs : List V} {fs : List (List Addr)}, RepS R ds vs fs → (∀ d v f, R d v f → R' d v f) → RepS R' ds vs fs
  | [], [], [], _, _ => trivial
  | _ :: _, _ :: _, _ :: _, h, k => ⟨k _ _ _ h.1, RepS.mono h.2 k⟩
  | [], _ :: _, _, h, _ => h.elim
  | [], [], _ :: _, h, _ => h.elim
  | _ :: _, [], _, h, _ => h.elim
  | _ :: _, _ :: _, [], h, _ => h.elim
theorem RepS.monoF {R R' : D → V → List Addr → Prop} : ∀ {ds : List D} {vs : List V} {fs : List (List Addr)}, RepS R ds vs fs → (∀ d v f, f ∈ fs → R d v f → R' d v f) → RepS R' ds vs fs
  | [], [], [], _, _ => trivial
  | _ :: _, _ :: _, _ :: _, h, k => ⟨k _ _ _ List.mem_cons_self h.1, RepS.monoF h.2 fun d v f hf => k d v f (List.mem_cons_of_mem _ hf)⟩
  | [], _ :: _, _, h, _ => h.elim
  | [], [], _ :: _, h, _ => h.elim
  | _ :: _, [], _, h, _ => h.elim
  | _ :: _, _ :: _, [], h, _ => h.elim
theorem FpS.mono {R R' : Addr → List Nat → Prop} : ∀ {fs : List (List Addr)} {Ls : List (List Nat)}, FpS R fs Ls → (∀ b L, R b L → R' b L) → FpS R' fs Ls
  | [], [], _, _ => trivial
  | _ :: _, _ :: _, h, k => ⟨fun b hb => k b _ (h.1 b hb), FpS.mono h.2 k⟩
  | [], _ :: _, h, _ => h.elim
  | _ :: _, [], h, _ => h.elim
theorem FpS.mem {R : Addr → List Nat → Prop} : ∀ {fs : List (List Addr)} {Ls : List (List Nat)} {f : List Addr} {b : Addr}, FpS R fs Ls → f ∈ fs → b ∈ f → ∃ L ∈ Ls, R b L
  | [], _, _, _, _, hf, _ => nomatch hf
  | _ :: _, _ :: _, _, _, h, hf, hb => by
    rcases List.mem_cons.mp hf with rfl | hf
    · exact ⟨_, List.mem_cons_self, h.1 _ hb⟩
    · obtain ⟨L, h1, h2⟩ := FpS.mem h.2 hf hb
      exact ⟨L, List.mem_cons_of_mem _ h1, h2⟩
  | _ :: _, [], _, _, h, _, _ => h.elim
def CellOk (mg : Mg) (P : Fm) (g : Addr → Nat) (H : Hp) : Kd → D → Option V → Prop
  | .dead, _, _ => True
  | .exc a c, d, ov => d = .str c ∧ ov = some (.ref a)
  | .ob n Ls, d, ov => ∃ (a C dx : Addr) (c : Str) (ns : List Str) (vs : List V) (ds : List D) (fps : List (List Addr)), d = .obj c ns ds ∧ ov = some (.ref a) ∧ mg.mg c = some (.ref C) ∧ ns.length = vs.length ∧ H a = some (.ins C dx (ns.zip vs)) ∧ (Old P g [n] a ∧ P.out a) ∧
      RepS (Rep mg H) ds vs fps ∧ FpS (fun b L => Old P g L b) fps Ls ∧ (a :: fps.flatten).Nodup
  | .flat, d, ov => ∃ v, ov = some v ∧ Rep mg H d v []
  | .lab rt L nd, d, ov => ∃ v fp, ov = some v ∧ Rep mg H d v fp ∧ (∀ a ∈ fp, (v = .ref a ∧ ∃ n, rt = some n ∧ Old P g [n] a) ∨ ((v ≠ .ref a ∨ rt = none) ∧ Old P g L a)) ∧ Nd nd rt.isSome v fp

def Cells (mg : Mg) (P : Fm) (g : Addr → Nat) (H : Hp) : List Kd → List D → List (Option V) → Prop
  | [], [], [] => True
  | k :: Γ, d :: ρ, v :: σ => CellOk mg P g H k d v ∧ Cells mg P g H Γ ρ σ
  | _, _, _ => False

structure Sta (mg : Mg) (P : Fm) (LL : List Nat) (Γ : List Kd) (g : Addr → Nat) (ρ : List D) (σ : L2.St) (H : Hp) : Prop where
  loc : Loc P LL g H
  cells : Cells mg P g H Γ ρ σ

/-- the nodes of a result -/
def Nds (P : Fm) (g : Addr → Nat) (H H' : Hp) (fr : Bool) (rt : Rt) (L : List Nat) (nd : Bool) (v : V) (fp : List Addr) : Prop :=
  (∀ a ∈ fp, (v = .ref a ∧ match rt with | .new => New H H' a | .old n => Old P g [n] a | .unk => False) ∨ ((v ≠ .ref a ∨ rt = .unk) ∧ ((fr = true ∧ New H H' a) ∨ Old P g L a))) ∧ Nd nd rt.known v fp
/-- a result -/
def Val (mg : Mg) (P : Fm) (g : Addr → Nat) (H H' : Hp) : Md → D → V → Prop
  | .flat, d, v => Rep mg H' d v []
  | .al fr rt L nd, d, v => ∃ fp, Rep mg H' d v fp ∧ Nds P g H H' fr rt L nd v fp
/-- several -/
def Fps (P : Fm) (g : Addr → Nat) (H H' : Hp) : Md → List Addr → Prop
  | .flat, fp => fp = []
  | .al fr _ L nd, fp => (∀ a ∈ fp, (fr = true ∧ New H H' a) ∨ Old P g L a) ∧ (nd = true → fp.Nodup)
def ValL (mg : Mg) (P : Fm) (g : Addr → Nat) (H H' : Hp) (m : Md) (ds : List D) (vs : List V) : Prop := ∃ fp, RepL mg H' ds vs fp ∧ Fps P g H H' m fp

section
variable {mg : Mg} {P : Fm} {LL : List Nat} {Γ : List Kd} {g : Addr → Nat} {ρ : List D} {σ : L2.St} {H H' H1 : Hp}

theorem mut_of {o : Option HO} {o' : Option HO} (h : Mut o) (e : ∀ u, o = some u → o' = some u) : Mut o' := by
  cases o with
  | none => exact h.elim
  | some u => rw [e u rfl]; exact h

theorem Loc.ext (l : Loc P LL g H) (e : Ext H H') : Loc P LL g H' := ⟨fun a h => let ⟨o, q, m⟩ := l.at_ a h; ⟨o, e a o q, m⟩, fun a h z => l.out a h (e.nope z), fun a h => ⟨let ⟨⟨o, u, q⟩, _⟩ := l.fz a h; ⟨o, u, e a _ q⟩, (l.fz a h).2⟩⟩
theorem CellOk.ext {k : Kd} {d : D} {v : Option V} (c : CellOk mg P g H k d v) (e : Ext H H') : CellOk mg P g H' k d v := by
  cases k with
  | dead => trivial
  | exc _ _ => exact c
  | ob n Ls =>
    obtain ⟨a, C, dx, c, ns, vs, ds, fps, rfl, rfl, hc, hl, r, o, rs, fs, nd⟩ := c
    exact ⟨a, C, dx, c, ns, vs, ds, fps, rfl, rfl, hc, hl, e a _ r, o, rs.mono fun d v f h => h.ext e, fs, nd⟩
  | flat => obtain ⟨v, rfl, r⟩ := c; exact ⟨v, rfl, r.ext e⟩
  | lab rt L nd => obtain ⟨v, fp, rfl, r, q⟩ := c; exact ⟨v, fp, rfl, r.ext e, q⟩
theorem New.ext {a : Addr} (n : New H H1 a) (e : Ext H1 H') : New H H' a := ⟨n.1, mut_of n.2 (e a)⟩
theorem New.back {a : Addr} (n : New H1 H' a) (e : Ext H H1) : New H H' a := ⟨e.nope n.1, n.2⟩
theorem Cells.ext (e : Ext H H') : ∀ {Γ : List Kd} {ρ : List D} {σ : L2.St}, Cells mg P g H Γ ρ σ → Cells mg P g H' Γ ρ σ
  | [], [], [], _ => trivial
  | _ :: _, _ :: _, _ :: _, h => ⟨h.1.ext e, Cells.ext e h.2⟩
  | [], _ :: _, _, h => h.elim
  | [], [], _ :: _, h => h.elim
  | _ :: _, [], _, h => h.elim
  | _ :: _, _ :: _, [], h => h.elim
theorem Sta.ext (s : Sta mg P LL Γ g ρ σ H) (e : Ext H H') : Sta mg P LL Γ g ρ σ H' := ⟨s.loc.ext e, s.cells.ext e⟩

theorem Cells.get : ∀ {Γ : List Kd} {ρ : List D} {σ : L2.St} {i : Nat} {k : Kd}, Cells mg P g H Γ ρ σ → Γ[i]? = some k → ∃ d ov, ρ[i]? = some d ∧ σ[i]? = some ov ∧ CellOk mg P g H k d ov
  | [], _, _, _, _, _, e => by simp at e
  | k :: Γ, d :: ρ, v :: σ, 0, k', h, e => by simp at e; subst e; exact ⟨d, v, rfl, rfl, h.1⟩
  | k :: Γ, d :: ρ, v :: σ, i + 1, k', h, e => by
    obtain ⟨d', ov, h1, h2, h3⟩ := Cells.get (i := i) (k := k') h.2 (by simpa using e)
    exact ⟨d', ov, by simpa using h1, by simpa using h2, h3⟩
  | _ :: _, [], _, _, _, h, _ => h.elim
  | _ :: _, _ :: _, [], _, _, h, _ => h.elim

theorem Nds.ext {fr : Bool} {rt : Rt} {L : List Nat} {nd : Bool} {v : V} {fp : List Addr} (h : Nds P g H H1 fr rt L nd v fp) (e : Ext H1 H') : Nds P g H H' fr rt L nd v fp := by
  refine ⟨fun a ha => ?_, h.2⟩
  rcases h.1 a ha with ⟨x, y⟩ | ⟨z, ⟨x, n⟩ | o⟩
  · refine .inl ⟨x, ?_⟩
    cases rt with
    | new => exact New.ext y e
    | old n => exact y
    | unk => exact y
  · exact .inr ⟨z, .inl ⟨x, n.ext e⟩⟩
  · exact .inr ⟨z, .inr o⟩
theorem Nds.back {fr : Bool} {rt : Rt} {L : List Nat} {nd : Bool} {v : V} {fp : List Addr} (h : Nds P g H1 H' fr rt L nd v fp) (e : Ext H H1) : Nds P g H H' fr rt L nd v fp := by
  refine ⟨fun a ha => ?_, h.2⟩
  rcases h.1 a ha with ⟨x, y⟩ | ⟨z, ⟨x, n⟩ | o⟩
  · refine .inl ⟨x, ?_⟩
    cases rt with
    | new => exact New.back y e
    | old n => exact y
    | unk => exact y
  · exact .inr ⟨z, .inl ⟨x, n.back e⟩⟩
  · exact .inr ⟨z, .inr o⟩
theorem Val.ext {m : Md} {d : D} {v : V} (h : Val mg P g H H1 m d v) (e : Ext H1 H') : Val mg P g H H' m d v := by
  cases m with
  | flat => exact Rep.ext h e
  | al fr rt L nd =>
    obtain ⟨fp, r, q⟩ := h
    exact ⟨fp, r.ext e, q.ext e⟩
theorem Fps.ext {m : Md} {fp : List Addr} (h : Fps P g H H1 m fp) (e : Ext H1 H') : Fps P g H H' m fp := by
  cases m with
  | flat => exact h
  | al fr rt L nd => exact ⟨fun a ha => (h.1 a ha).imp (fun ⟨x, n⟩ => ⟨x, n.ext e⟩) id, h.2⟩
theorem Fps.back {m : Md} {fp : List Addr} (h : Fps P g H1 H' m fp) (e : Ext H H1) : Fps P g H H' m fp := by
  cases m with
  | flat => exact h
  | al fr rt L nd => exact ⟨fun a ha => (h.1 a ha).imp (fun ⟨x, n⟩ => ⟨x, n.back e⟩) id, h.2⟩
/-- seen from an earlier heap -/
theorem Val.back {m : Md} {d : D} {v : V} (h : Val mg P g H1 H' m d v) (e : Ext H H1) : Val mg P g H H' m d v := by
  cases m with
  | flat => exact h
  | al fr rt L nd => obtain ⟨fp, r, q⟩ := h; exact ⟨fp, r, q.back e⟩
end

/-! ### expressions -/
abbrev Ev := List D → Option D
def EX (X : Cx) (LL : List Nat) (Γ : List Kd) (e : Expr) (sem : Ev) (m : Md) : Prop :=
  ∃ t, PE X e t ∧ ∀ P g ρ σ H d Q, Sta X.vm P LL Γ g ρ σ H → sem ρ = some d → (∀ v H', Ext H H' → Val X.vm P g H H' m d v → Q v H') → t σ H Q
def EA (X : Cx) (LL : List Nat) (Γ : List Kd) (es : List Expr) (sem : List D → Option (List D)) (m : Md) : Prop :=
  (∀ ρ ds, sem ρ = some ds → ds.length = es.length) ∧ ∃ t, PA X es t ∧ ∀ P g ρ σ H ds Q, Sta X.vm P LL Γ g ρ σ H → sem ρ = some ds → (∀ vs H', Ext H H' → ValL X.vm P g H H' m ds vs → Q vs H') → t σ H Q
def ET (X : Cx) (LL : List Nat) (Γ : List Kd) (e : Expr) (sem : List D → Option Bool) : Prop :=
  ∃ t, PT X e t ∧ ∀ P g ρ σ H b Q, Sta X.vm P LL Γ g ρ σ H → sem ρ = some b → (∀ H', Ext H H' → Q b H') → t σ H Q
def EW (X : Cx) (LL : List Nat) (Γ : List Kd) (e : Expr) (sem : List D → Option Bool) : Prop :=
  ∃ t, PW X e t ∧ ∀ P g ρ σ H b Q, Sta X.vm P LL Γ g ρ σ H → sem ρ = some b → (∀ H', Ext H H' → Q b H') → t σ H Q

/-- a slot that may be read as a tree -/
def Kd.use : Kd → Bool
  | .dead => false
  | .exc _ _ => false
  | .ob _ _ => false
  | _ => true
def Kd.md : Kd → Md
  | .dead => .flat
  | .exc _ _ => .flat
  | .ob _ _ => .flat
  | .flat => .flat
  | .lab rt L nd => .al false (match rt with | some n => .old n | none => .unk) L nd
def disj (a b : List Nat) : Bool := a.all fun x => !b.contains x
/-- the root's place said as any node's -/
def Md.unroot : Md → Md
  | .flat => .flat
  | .al _ .new L nd => .al true .unk L nd
  | .al fr (.old n) L nd => .al fr .unk (n :: L) nd
  | .al fr .unk L nd => .al fr .unk L nd
def Md.join1 : Md → Md → Md
  | .flat, .flat => .flat
  | .al fr rt L nd, .flat => .al fr .unk L nd
  | .flat, .al fr rt L nd => .al fr .unk L nd
  | .al fr _ L nd, .al fr' _ L' nd' => .al (fr || fr') .unk (L ++ L') (nd && nd' && disj L L')
def Md.join (m m' : Md) : Md := m.unroot.join1 m'

def eVar (i : Nat) : Ev := fun ρ => ρ[i]?
def eC (d : D) : Ev := fun _ => some d
def aNil : List D → Option (List D) := fun _ => some []
def aCons (e : Ev) (r : List D → Option (List D)) : List D → Option (List D) := fun ρ => do
  let d ← e ρ
  let ds ← r ρ
  some (d :: ds)
/-- an operation on values of arguments -/
def eP (f : List D → Option D) (a : List D → Option (List D)) : Ev := fun ρ => do f (← a ρ)
def eTup (a : List D → Option (List D)) : Ev := fun ρ => do let ds ← a ρ; some (.tup ds)
def eLst (a : List D → Option (List D)) : Ev := fun ρ => do let ds ← a ρ; some (.lst ds)

theorem bind_some {α β : Type} {x : Option α} {f : α → Option β} {b : β} (h : (x >>= f) = some b) : ∃ a, x = some a ∧ f a = some b := by
  cases x with
  | none => cases h
  | some a => exact ⟨a, rfl, h⟩

section
variable {X : Cx} {LL : List Nat} {Γ : List Kd} {pos : Pos}

theorem ex_var {x : Str} {k : Kd} (i : Nat) (hk : Γ[i]? = some k) (hd : k.use = true) (hN : X.N[i]? = some x) (hv : Vis X.env.scope x) (hdb : (x == ("__debug__" : Str)) = false := by decide)
    (hcd : (x == ("__classdict__" : Str)) = false := by decide) : EX X LL Γ (.Name x pos) (eVar i) k.md := by
  refine ⟨tVar i, pe_var hN hv hdb hcd, fun P g ρ σ H d Q s hs q => ?_⟩
  obtain ⟨d', ov, h1, h2, h3⟩ := s.cells.get hk
  have e : d' = d := Option.some.inj (h1.symm.trans hs)
  subst e
  cases k with
  | dead => cases hd
  | exc _ _ => cases hd
  | ob _ _ => cases hd
  | flat =>
    obtain ⟨v, rfl, r⟩ := h3
    exact ⟨v, h2, q v H Ext.refl r⟩
  | lab rt L nd =>
    obtain ⟨v, fp, rfl, r, o, n⟩ := h3
    refine ⟨v, h2, q v H Ext.refl ⟨fp, r, fun a ha => ?_, by cases rt <;> exact n⟩⟩
    rcases o a ha with ⟨e, k, rfl, o'⟩ | ⟨z, o'⟩
    · exact .inl ⟨e, o'⟩
    · refine .inr ⟨?_, .inr o'⟩
      rcases z with z | rfl
      · exact .inl z
      · exact .inr rfl

theorem val_flat {mg : Mg} {P : Fm} {g : Addr → Nat} {H H' : Hp} {d : D} {v : V} (r : Rep mg H' d v []) : Val mg P g H H' .flat d v := r
theorem rep_int {mg : Mg} {H : Hp} {i : Int} : Rep mg H (.int i) (.int i) [] := by simp [Rep]
theorem rep_str {mg : Mg} {H : Hp} {i : Str} : Rep mg H (.str i) (.str i) [] := by simp [Rep]
theorem rep_bl {mg : Mg} {H : Hp} {i : Bool} : Rep mg H (.bl i) (.bl i) [] := by simp [Rep]
theorem rep_non {mg : Mg} {H : Hp} : Rep mg H .non .non [] := by simp [Rep]

theorem ex_int {i : Int} {j} : EX X LL Γ (.Constant (.int i) j pos) (eC (.int i)) .flat :=
  ⟨_, pe_int, fun P g ρ σ H d Q s hs q => by cases hs; exact q _ _ Ext.refl (val_flat rep_int)⟩
theorem ex_bl {b : Bool} {j} : EX X LL Γ (.Constant (.bool b) j pos) (eC (.bl b)) .flat :=
  ⟨_, pe_bl, fun P g ρ σ H d Q s hs q => by cases hs; exact q _ _ Ext.refl (val_flat rep_bl)⟩
theorem ex_non {j} : EX X LL Γ (.Constant .none j pos) (eC .non) .flat :=
  ⟨_, pe_non, fun P g ρ σ H d Q s hs q => by cases hs; exact q _ _ Ext.refl (val_flat rep_non)⟩
theorem ex_str {x : Str} {j} : EX X LL Γ (.Constant (.str x) j pos) (eC (.str x)) .flat :=
  ⟨_, pe_str, fun P g ρ σ H d Q s hs q => by cases hs; exact q _ _ Ext.refl (val_flat rep_str)⟩

theorem disj_ok {L L' : List Nat} {x : Nat} (h : disj L L' = true) (a : x ∈ L) : x ∉ L' := by
  unfold disj at h
  have := List.all_eq_true.mp h x a
  simpa using this

theorem Nds.unroot {P : Fm} {g : Addr → Nat} {H H' : Hp} {fr : Bool} {rt : Rt} {L : List Nat} {nd : Bool} {v : V} {fp : List Addr} (h : Nds P g H H' fr rt L nd v fp) : Fps P g H H' (Md.al fr rt L nd).unroot fp := by
  obtain ⟨o, n, _⟩ := h
  cases rt with
  | new =>
    refine ⟨fun a ha => ?_, n⟩
    rcases o a ha with ⟨_, x⟩ | ⟨_, ⟨_, x⟩ | x⟩
    · exact .inl ⟨rfl, x⟩
    · exact .inl ⟨rfl, x⟩
    · exact .inr x
  | old k =>
    refine ⟨fun a ha => ?_, n⟩
    rcases o a ha with ⟨_, x⟩ | ⟨_, x | x⟩
    · exact .inr ⟨by rw [List.mem_singleton.mp x.1]; exact List.mem_cons_self, x.2⟩
    · exact .inl x
    · exact .inr ⟨List.mem_cons_of_mem _ x.1, x.2⟩
  | unk =>
    refine ⟨fun a ha => ?_, n⟩
    rcases o a ha with ⟨_, x⟩ | ⟨_, x⟩
    · exact x.elim
    · exact x
theorem Val.unroot {mg : Mg} {P : Fm} {g : Addr → Nat} {H H' : Hp} {m : Md} {d : D} {v : V} (h : Val mg P g H H' m d v) : ∃ fp, Rep mg H' d v fp ∧ Fps P g H H' m.unroot fp := by
  cases m with
  | flat => exact ⟨[], h, rfl⟩
  | al fr rt L nd => obtain ⟨fp, r, o⟩ := h; exact ⟨fp, r, o.unroot⟩
theorem fps_join {P : Fm} {LL : List Nat} {g : Addr → Nat} {H H1 H2 : Hp} {m m' : Md} {f f' : List Addr} (l : Loc P LL g H) (e1 : Ext H H1) (e2 : Ext H1 H2) (h : Fps P g H H1 m f) (th : ∀ a ∈ f, H1 a ≠ none)
    (h' : Fps P g H1 H2 m' f') : Fps P g H H2 (m.join1 m') (f ++ f') := by
  have k := h.ext e2
  have k' := h'.back e1
  cases m with
  | flat =>
    obtain rfl : f = [] := h
    cases m' with
    | flat => exact k'
    | al fr rt L nd => exact k'
  | al fr rt L nd =>
    cases m' with
    | flat =>
      obtain rfl : f' = [] := h'
      rw [List.append_nil]
      exact k
    | al fr' rt' L' nd' =>
      refine ⟨fun a ha => ?_, fun hn => ?_⟩
      · rcases List.mem_append.mp ha with ha | ha
        · exact (k.1 a ha).imp (fun ⟨x, y⟩ => ⟨by rw [x]; rfl, y⟩) fun o => ⟨List.mem_append_left _ o.1, o.2⟩
        · exact (k'.1 a ha).imp (fun ⟨x, y⟩ => ⟨by rw [x]; cases fr <;> rfl, y⟩) fun o => ⟨List.mem_append_right _ o.1, o.2⟩
      · simp only [Bool.and_eq_true] at hn
        obtain ⟨⟨n1, n2⟩, dj⟩ := hn
        refine List.nodup_append.mpr ⟨h.2 n1, h'.2 n2, ?_⟩
        intro a ha b hb hab
        subst hab
        rcases h'.1 a hb with ⟨_, z, _⟩ | o'
        · exact th a ha z
        · rcases h.1 a ha with ⟨_, z, _⟩ | o
          · exact o'.there l z
          · exact disj_ok dj o.1 o'.1
theorem valL_cons {mg : Mg} {P : Fm} {LL : List Nat} {g : Addr → Nat} {H H1 H2 : Hp} {m m' : Md} {d : D} {ds : List D} {v : V} {vs : List V} (l : Loc P LL g H)
    (e1 : Ext H H1) (e2 : Ext H1 H2) (h : Val mg P g H H1 m d v) (h' : ValL mg P g H1 H2 m' ds vs) : ValL mg P g H H2 (m.join m') (d :: ds) (v :: vs) := by
  obtain ⟨f, r, o⟩ := h.unroot
  obtain ⟨f', r', o'⟩ := h'
  refine ⟨f ++ f', ?_, fps_join l e1 e2 o (fun a ha => r.there a ha) o'⟩
  simp only [RepL]
  exact ⟨v, vs, f, f', rfl, r.ext e2, r', rfl⟩
theorem valL_nil {mg : Mg} {P : Fm} {g : Addr → Nat} {H H' : Hp} : ValL mg P g H H' .flat [] [] := ⟨[], by simp [RepL], rfl⟩

theorem ea_nil : EA X LL Γ [] aNil .flat := ⟨fun ρ ds h => by cases h; rfl, _, pa_nil, fun P g ρ σ H ds Q s hs q => by
  cases hs
  exact q [] H Ext.refl valL_nil⟩
theorem ea_cons {e : Expr} {es : List Expr} {se : Ev} {sr : List D → Option (List D)} {m m' : Md} (h : EX X LL Γ e se m) (h' : EA X LL Γ es sr m')
    (hs : starEach (e :: es) X.env = (false, eval e X.env) :: starEach es X.env := by rfl) : EA X LL Γ (e :: es) (aCons se sr) (m.join m') := by
  obtain ⟨t, ht, k⟩ := h
  obtain ⟨hl, u, hu, k'⟩ := h'
  refine ⟨fun ρ ds e => by
    obtain ⟨d, e1, e⟩ := bind_some e
    obtain ⟨dr, e2, e⟩ := bind_some e
    cases e
    simp [hl ρ dr e2], _, pa_cons ht hu hs, fun P g ρ σ H ds Q s e q => ?_⟩
  obtain ⟨d, e1, e⟩ := bind_some e
  obtain ⟨dr, e2, e⟩ := bind_some e
  cases e
  refine k P g ρ σ H d _ s e1 fun v H1 x1 v1 => ?_
  refine k' P g ρ σ H1 dr _ (s.ext x1) e2 fun vs H2 x2 v2 => ?_
  exact q (v :: vs) H2 (x1.trans x2) (valL_cons s.loc x1 x2 v1 v2)

def Md.tup : Md → Md
  | .flat => .flat
  | .al fr _ L nd => .al fr .unk L nd
def Md.lst : Md → Md
  | .flat => .al false .new [] true
  | .al fr _ L nd => .al fr .new L nd

theorem val_tup {mg : Mg} {P : Fm} {g : Addr → Nat} {H H1 : Hp} {m : Md} {ds : List D} {vs : List V} {p : Addr} (h : ValL mg P g H H1 m ds vs) (hp : H1 p = none) :
    Val mg P g H (upd H1 p (.tup vs)) m.tup (.tup ds) (.ref p) := by
  have x : Ext H1 (upd H1 p (.tup vs)) := Ext.put hp
  obtain ⟨fp, r, q⟩ := h
  have rr : Rep mg (upd H1 p (.tup vs)) (.tup ds) (.ref p) fp := by
    simp only [Rep]
    exact ⟨p, vs, rfl, upd_same, r.ext x⟩
  have q := q.ext x
  cases m with
  | flat =>
    obtain rfl : fp = [] := q
    exact rr
  | al fr rt L nd => exact ⟨fp, rr, fun a ha => .inr ⟨.inr rfl, q.1 a ha⟩, .unk q.2⟩
theorem val_lst {mg : Mg} {P : Fm} {g : Addr → Nat} {H H1 : Hp} {m : Md} {ds : List D} {vs : List V} {p : Addr} (h : ValL mg P g H H1 m ds vs) (e : Ext H H1) (hp : H1 p = none) :
    Val mg P g H (upd H1 p (.lst vs)) m.lst (.lst ds) (.ref p) := by
  have x : Ext H1 (upd H1 p (.lst vs)) := Ext.put hp
  have mu : New H (upd H1 p (.lst vs)) p := ⟨e.nope hp, by rw [upd_same]; trivial⟩
  obtain ⟨fp, r, q⟩ := h
  have rr : Rep mg (upd H1 p (.lst vs)) (.lst ds) (.ref p) (p :: fp) := by
    simp only [Rep]
    exact ⟨p, vs, fp, rfl, upd_same, r.ext x, rfl⟩
  have hn : p ∉ fp := fun hm => r.there p hm hp
  have q := q.ext x
  cases m with
  | flat =>
    obtain rfl : fp = [] := q
    refine ⟨[p], rr, fun a ha => ?_, .of (by simp)⟩
    rw [List.mem_singleton.mp ha]
    exact .inl ⟨rfl, mu⟩
  | al fr rt L nd =>
    refine ⟨p :: fp, rr, fun a ha => ?_, .cons hn q.2⟩
    rcases List.mem_cons.mp ha with rfl | ha
    · exact .inl ⟨rfl, mu⟩
    · exact .inr ⟨.inl fun e => by cases e; exact hn ha, q.1 a ha⟩

theorem ValL.length {mg : Mg} {P : Fm} {g : Addr → Nat} {H H1 : Hp} {m : Md} {ds : List D} {vs : List V} (h : ValL mg P g H H1 m ds vs) : vs.length = ds.length := let ⟨_, r, _⟩ := h; r.length

theorem ex_tup {es : List Expr} {k} {sem : List D → Option (List D)} {m : Md} (h : EA X LL Γ es sem m) (hl : es.length ≤ 1000 := by decide) : EX X LL Γ (.Tuple es k pos) (eTup sem) m.tup := by
  obtain ⟨hz, t, ht, kk⟩ := h
  refine ⟨_, pe_tup ht, fun P g ρ σ H d Q s e q => ?_⟩
  obtain ⟨ds, e1, e⟩ := bind_some e
  cases e
  refine kk P g ρ σ H ds _ s e1 fun vs H1 x1 v1 => ⟨?_, fun p hp => ?_⟩
  · rw [v1.length, hz _ _ e1]; exact Nat.le_of_lt (small1000 hl)
  · exact q _ _ (x1.trans (Ext.put hp)) (val_tup v1 hp)
theorem ex_lst {es : List Expr} {sem : List D → Option (List D)} {m : Md} (h : EA X LL Γ es sem m) (hl : es.length ≤ 1000 := by decide) : EX X LL Γ (.List es pos) (eLst sem) m.lst := by
  obtain ⟨hz, t, ht, kk⟩ := h
  refine ⟨_, pe_lst ht, fun P g ρ σ H d Q s e q => ?_⟩
  obtain ⟨ds, e1, e⟩ := bind_some e
  cases e
  refine kk P g ρ σ H ds _ s e1 fun vs H1 x1 v1 => ⟨?_, fun p hp => ?_⟩
  · rw [v1.length, hz _ _ e1]; exact Nat.le_of_lt (small1000 hl)
  · exact q _ _ (x1.trans (Ext.put hp)) (val_lst v1 x1 hp)
end
end VV

/-! ## VOps -/
namespace VV
open PySem PySem.Spec PyProof.Rows L2

/-- an operation by values keeps to a function of trees -/
def CP (X : Cx) (r : List V → Hp → VK → Prop) (f : List D → Option D) (md : Md → Md) : Prop :=
  ∀ P LL g H H1 m ds vs d Q, Loc P LL g H → Ext H H1 → ValL X.vm P g H H1 m ds vs → f ds = some d → (∀ v H', Ext H1 H' → Val X.vm P g H H' (md m) d v → Q v H') → r vs H1 Q
def r1 (r : V → Hp → VK → Prop) : List V → Hp → VK → Prop := fun vs H Q => ∃ a, vs = [a] ∧ r a H Q
def r2 (r : R2) : List V → Hp → VK → Prop := fun vs H Q => ∃ a b, vs = [a, b] ∧ r a b H Q
abbrev toFlat : Md → Md := fun _ => .flat

section
variable {X : Cx} {LL : List Nat} {Γ : List Kd} {pos : Pos}

/-- two arguments in a row -/
theorem two {a b : Expr} {sa sb : Ev} {ma mb : Md} (ha : EX X LL Γ a sa ma) (hb : EX X LL Γ b sb mb) :
    ∃ ta tb, PE X a ta ∧ PE X b tb ∧ ∀ P g ρ σ H ds (Q : V → V → Hp → Prop), Sta X.vm P LL Γ g ρ σ H → aCons sa (aCons sb aNil) ρ = some ds →
      (∀ d e v w H', ds = [d, e] → Ext H H' → Val X.vm P g H H' ma d v → Val X.vm P g H H' mb e w → ValL X.vm P g H H' (ma.join (mb.join .flat)) ds [v, w] → Q v w H') → ta σ H fun v H1 => tb σ H1 fun w H2 => Q v w H2 := by
  obtain ⟨ta, pa, ka⟩ := ha
  obtain ⟨tb, pb, kb⟩ := hb
  refine ⟨ta, tb, pa, pb, fun P g ρ σ H ds Q s e q => ?_⟩
  obtain ⟨d, e1, e⟩ := bind_some e
  obtain ⟨dr, e2, e⟩ := bind_some e
  cases e
  obtain ⟨d2, e3, e2⟩ := bind_some e2
  cases e2
  refine ka P g ρ σ H d _ s e1 fun v H1 x1 v1 => ?_
  refine kb P g ρ σ H1 d2 _ (s.ext x1) e3 fun w H2 x2 v2 => ?_
  refine q d d2 v w H2 rfl (x1.trans x2) (v1.ext x2) (v2.back x1) (valL_cons s.loc x1 x2 v1 ?_)
  exact valL_cons (s.loc.ext x1) x2 Ext.refl v2 valL_nil

theorem ex_bin {a b : Expr} {sa sb : Ev} {ma mb : Md} {op : Operator} {r : R2} {f : List D → Option D} {md : Md → Md} (ho : OpR X (binaryOp op) r) (hc : CP X (r2 r) f md) (ha : EX X LL Γ a sa ma) (hb : EX X LL Γ b sb mb) :
    EX X LL Γ (.BinOp a op b pos) (eP f (aCons sa (aCons sb aNil))) (md (ma.join (mb.join .flat))) := by
  obtain ⟨ta, tb, pa, pb, k⟩ := two ha hb
  refine ⟨_, pe_op ho pa pb, fun P g ρ σ H d Q s e q => ?_⟩
  obtain ⟨ds, e1, e⟩ := bind_some e
  refine k P g ρ σ H ds _ s e1 fun d1 d2 v w H' _ x va vb vl => ?_
  obtain ⟨_, _, e3, z⟩ := hc P LL g H H' _ ds _ d Q s.loc x vl e fun v2 H2 x2 w2 => q v2 H2 (x.trans x2) w2
  cases e3
  exact z
theorem ex_un {a : Expr} {sa : Ev} {ma : Md} {op : UnaryOp} {r : V → Hp → VK → Prop} {f : List D → Option D} {md : Md → Md} (ho : UnR X (unaryOp op) r) (hc : CP X (r1 r) f md) (ha : EX X LL Γ a sa ma) :
    EX X LL Γ (.UnaryOp op a pos) (eP f (aCons sa aNil)) (md (ma.join .flat)) := by
  obtain ⟨ta, pa, k⟩ := ha
  refine ⟨_, pe_un ho pa, fun P g ρ σ H d Q s e q => ?_⟩
  obtain ⟨ds, e1, e⟩ := bind_some e
  obtain ⟨d1, e2, e1⟩ := bind_some e1
  cases e1
  refine k P g ρ σ H d1 _ s e2 fun v H1 x1 v1 => ?_
  have vl := valL_cons s.loc x1 Ext.refl v1 valL_nil
  obtain ⟨_, e3, z⟩ := hc P LL g H H1 _ _ _ d Q s.loc x1 vl e fun v2 H2 x2 w2 => q v2 H2 (x1.trans x2) w2
  cases e3
  exact z
theorem ex_cmp {a b : Expr} {sa sb : Ev} {ma mb : Md} {op : CmpOp} {r : R2} {f : List D → Option D} {md : Md → Md} (ho : OpR X (compareOp op) r) (hc : CP X (r2 r) f md) (ha : EX X LL Γ a sa ma) (hb : EX X LL Γ b sb mb)
    (hm : behindInMarks op b = false) : EX X LL Γ (.Compare a [op] [b] pos) (eP f (aCons sa (aCons sb aNil))) (md (ma.join (mb.join .flat))) := by
  obtain ⟨ta, tb, pa, pb, k⟩ := two ha hb
  refine ⟨_, pe_cmpR ho pa pb hm, fun P g ρ σ H d Q s e q => ?_⟩
  obtain ⟨ds, e1, e⟩ := bind_some e
  refine k P g ρ σ H ds _ s e1 fun d1 d2 v w H' _ x va vb vl => ?_
  obtain ⟨_, _, e3, z⟩ := hc P LL g H H' _ ds _ d Q s.loc x vl e fun v2 H2 x2 w2 => q v2 H2 (x.trans x2) w2
  cases e3
  exact z
/-- a test by a value -/
def tOf (s : Ev) : List D → Option Bool := fun ρ => do match (← s ρ) with | .bl b => some b | _ => none
theorem et_cmp {a b : Expr} {sa sb : Ev} {ma mb : Md} {op : CmpOp} {r : R2} {f : List D → Option D} {md : Md → Md} (ho : OpR X (compareOp op) r) (hc : CP X (r2 r) f md) (ha : EX X LL Γ a sa ma) (hb : EX X LL Γ b sb mb)
    (hm : behindInMarks op b = false) (hf : ∀ m, md m = .flat := by intro _; rfl) : ET X LL Γ (.Compare a [op] [b] pos) (tOf (eP f (aCons sa (aCons sb aNil)))) := by
  obtain ⟨ta, tb, pa, pb, k⟩ := two ha hb
  refine ⟨_, pt_cmpR ho pa pb hm, fun P g ρ σ H c Q s e q => ?_⟩
  obtain ⟨d, e0, e⟩ := bind_some e
  obtain ⟨ds, e1, e0⟩ := bind_some e0
  refine k P g ρ σ H ds _ s e1 fun d1 d2 v w H' _ x va vb vl => ?_
  obtain ⟨_, _, e3, z⟩ := hc P LL g H H' _ ds _ d (fun x H' => ∃ k, x = .bl k ∧ Q k H') s.loc x vl e0 fun v2 H2 x2 w2 => by
    rw [hf] at w2
    cases d with
    | bl b' =>
      cases e
      have w2 : Rep _ _ _ _ _ := w2
      simp only [Rep] at w2
      exact ⟨_, w2.1, q H2 (x.trans x2)⟩
    | _ => cases e
  cases e3
  exact z
theorem et_val {a : Expr} {sa : Ev} (ha : EX X LL Γ a sa .flat) (he : ∀ whole, isTrue a X.env whole = (do let v ← whole; standAt a.pos; holding [v] (truthy v)) := by intro _; rfl) : ET X LL Γ a (tOf sa) := by
  obtain ⟨t, p, k⟩ := ha
  refine ⟨_, pt_val p he, fun P g ρ σ H b Q s e q => ?_⟩
  obtain ⟨d, e0, e⟩ := bind_some e
  refine k P g ρ σ H d _ s e0 fun v H' x vl => ?_
  cases d with
  | bl b' =>
    cases e
    have w2 : Rep _ _ _ _ _ := vl
    simp only [Rep] at w2
    exact ⟨_, w2.1, q H' x⟩
  | _ => cases e
theorem et_w {a : Expr} {s : List D → Option Bool} (h : EW X LL Γ a s) : ET X LL Γ a s := let ⟨t, p, k⟩ := h; ⟨t, p.pt, k⟩
def wAnd (a b : List D → Option Bool) : List D → Option Bool := fun ρ => do if (← a ρ) then b ρ else some false
def wOr (a b : List D → Option Bool) : List D → Option Bool := fun ρ => do if (← a ρ) then some true else b ρ
def wNot (a : List D → Option Bool) : List D → Option Bool := fun ρ => do some (!(← a ρ))
theorem ew_and1 {a : Expr} {s : List D → Option Bool} (h : ET X LL Γ a s) : EW X LL Γ (.BoolOp .And [a] pos) s := let ⟨t, p, k⟩ := h; ⟨t, pw_and1 p, k⟩
theorem ew_or1 {a : Expr} {s : List D → Option Bool} (h : ET X LL Γ a s) : EW X LL Γ (.BoolOp .Or [a] pos) s := let ⟨t, p, k⟩ := h; ⟨t, pw_or1 p, k⟩
theorem ew_and {a b : Expr} {rest : List Expr} {s u : List D → Option Bool} (h : ET X LL Γ a s) (h' : EW X LL Γ (.BoolOp .And (b :: rest) pos) u) : EW X LL Γ (.BoolOp .And (a :: b :: rest) pos) (wAnd s u) := by
  obtain ⟨t, p, k⟩ := h
  obtain ⟨t', p', k'⟩ := h'
  refine ⟨_, pw_and p p', fun P g ρ σ H c Q st e q => ?_⟩
  obtain ⟨d, e0, e⟩ := bind_some e
  refine k P g ρ σ H d _ st e0 fun H' x => ?_
  cases d with
  | true => exact iteT (k' P g ρ σ H' c Q (st.ext x) (by simpa using e) fun H2 x2 => q H2 (x.trans x2))
  | false => exact iteF (by cases (by simpa using e : false = c); exact q H' x)
theorem ew_or {a b : Expr} {rest : List Expr} {s u : List D → Option Bool} (h : ET X LL Γ a s) (h' : EW X LL Γ (.BoolOp .Or (b :: rest) pos) u) : EW X LL Γ (.BoolOp .Or (a :: b :: rest) pos) (wOr s u) := by
  obtain ⟨t, p, k⟩ := h
  obtain ⟨t', p', k'⟩ := h'
  refine ⟨_, pw_or p p', fun P g ρ σ H c Q st e q => ?_⟩
  obtain ⟨d, e0, e⟩ := bind_some e
  refine k P g ρ σ H d _ st e0 fun H' x => ?_
  cases d with
  | false => exact iteF (k' P g ρ σ H' c Q (st.ext x) (by simpa using e) fun H2 x2 => q H2 (x.trans x2))
  | true => exact iteT (by cases (by simpa using e : true = c); exact q H' x)
theorem et_not {a : Expr} {s : List D → Option Bool} (h : ET X LL Γ a s) : ET X LL Γ (.UnaryOp .Not a pos) (wNot s) := by
  obtain ⟨t, p, k⟩ := h
  refine ⟨_, pt_not p, fun P g ρ σ H c Q st e q => ?_⟩
  obtain ⟨d, e0, e⟩ := bind_some e
  refine k P g ρ σ H d _ st e0 fun H' x => ?_
  cases e
  exact q H' x

/-- calls of built-ins -/
theorem ex_callB {x : Str} {id : String} {p : Pos} {e : Expr} {es : List Expr} {r : List V → Hp → VK → Prop} {f : List D → Option D} {md : Md → Md} {sem : List D → Option (List D)} {m : Md} (hr : CallR X (.builtin id) r) (hc : CP X r f md)
    (hg : Gl X x) (hm : X.mg x = none) (hv : bootBuiltins x = some (.builtin id)) (ha : EA X LL Γ (e :: es) sem m) (hn : x ≠ "__name__" := by decide) (hdb : (x == ("__debug__" : Str)) = false := by decide)
    (he : starEach (e :: es) X.env = (false, eval e X.env) :: starEach es X.env := by rfl) (hpl : (backTo pos (starEach es X.env)).any (·.1) = false := by rfl) : EX X LL Γ (.Call (.Name x p) (e :: es) [] pos) (eP f sem) (md m) := by
  obtain ⟨_, t, pt, k⟩ := ha
  refine ⟨_, pe_callB hr hg hm hv pt hn hdb he hpl, fun P g ρ σ H d Q s e q => ?_⟩
  obtain ⟨ds, e1, e⟩ := bind_some e
  exact k P g ρ σ H ds _ s e1 fun vs H' x vl => hc P LL g H H' _ ds vs d Q s.loc x vl e fun v2 H2 x2 w2 => q v2 H2 (x.trans x2) w2
end
end VV

/-! ## VPrim -/
namespace VV
open PySem PySem.Spec PyProof.Rows L2

theorem ValL.rep {mg : Mg} {P : Fm} {g : Addr → Nat} {H H' : Hp} {m : Md} {ds : List D} {vs : List V} (h : ValL mg P g H H' m ds vs) : ∃ fp, RepL mg H' ds vs fp := let ⟨fp, r, _⟩ := h; ⟨fp, r⟩
theorem repL1 {mg : Mg} {H : Hp} {d : D} {vs : List V} {fp : List Addr} (h : RepL mg H [d] vs fp) : ∃ v, vs = [v] ∧ Rep mg H d v fp := by
  simp only [RepL] at h
  obtain ⟨v, r, f1, f2, rfl, h1, ⟨rfl, rfl⟩, rfl⟩ := h
  exact ⟨v, rfl, by simpa using h1⟩
theorem repL2 {mg : Mg} {H : Hp} {d e : D} {vs : List V} {fp : List Addr} (h : RepL mg H [d, e] vs fp) : ∃ v w f1 f2, vs = [v, w] ∧ Rep mg H d v f1 ∧ Rep mg H e w f2 ∧ fp = f1 ++ f2 := by
  simp only [RepL] at h
  obtain ⟨v, r, f1, f2, rfl, h1, ⟨w, r', g1, g2, rfl, h2, ⟨rfl, rfl⟩, rfl⟩, rfl⟩ := h
  exact ⟨v, w, f1, g1, rfl, h1, by simpa using h2, by simp⟩
theorem rInt {mg : Mg} {H : Hp} {i : Int} {v : V} {fp : List Addr} (h : Rep mg H (.int i) v fp) : v = .int i := by simp only [Rep] at h; exact h.1
theorem rStr {mg : Mg} {H : Hp} {i : Str} {v : V} {fp : List Addr} (h : Rep mg H (.str i) v fp) : v = .str i := by simp only [Rep] at h; exact h.1
theorem rBl {mg : Mg} {H : Hp} {i : Bool} {v : V} {fp : List Addr} (h : Rep mg H (.bl i) v fp) : v = .bl i := by simp only [Rep] at h; exact h.1
theorem rNon {mg : Mg} {H : Hp} {v : V} {fp : List Addr} (h : Rep mg H .non v fp) : v = .non := by simp only [Rep] at h; exact h.1

/-! ### ints -/
def dII (C : Int → Int → Prop) [DecidableRel C] (f : Int → Int → Int) : List D → Option D
  | [.int a, .int b] => if C a b then some (.int (f a b)) else none
  | _ => none
def dI2 (f : Int → Int → Int) : List D → Option D
  | [.int a, .int b] => some (.int (f a b))
  | _ => none
def dB2 (f : Int → Int → Bool) : List D → Option D
  | [.int a, .int b] => some (.bl (f a b))
  | _ => none
def dI1 (f : Int → Int) : List D → Option D
  | [.int a] => some (.int (f a))
  | _ => none
theorem dII_inv {C : Int → Int → Prop} [DecidableRel C] {f : Int → Int → Int} {ds : List D} {d : D} (h : dII C f ds = some d) : ∃ a b, ds = [.int a, .int b] ∧ C a b ∧ d = .int (f a b) := by
  unfold dII at h
  split at h
  · split at h
    · cases h; exact ⟨_, _, rfl, by assumption, rfl⟩
    · cases h
  · cases h
theorem dI2_inv {f : Int → Int → Int} {ds : List D} {d : D} (h : dI2 f ds = some d) : ∃ a b, ds = [.int a, .int b] ∧ d = .int (f a b) := by
  unfold dI2 at h
  split at h
  · cases h; exact ⟨_, _, rfl, rfl⟩
  · cases h
theorem dB2_inv {f : Int → Int → Bool} {ds : List D} {d : D} (h : dB2 f ds = some d) : ∃ a b, ds = [.int a, .int b] ∧ d = .bl (f a b) := by
  unfold dB2 at h
  split at h
  · cases h; exact ⟨_, _, rfl, rfl⟩
  · cases h
theorem dI1_inv {f : Int → Int} {ds : List D} {d : D} (h : dI1 f ds = some d) : ∃ a, ds = [.int a] ∧ d = .int (f a) := by
  unfold dI1 at h
  split at h
  · cases h; exact ⟨_, rfl, rfl⟩
  · cases h
section
variable {X : Cx}
theorem cp_ii {C : Int → Int → Prop} [DecidableRel C] {f : Int → Int → Int} : CP X (r2 (rI C fun i j => .int (f i j))) (dII C f) toFlat := by
  intro P LL g H H1 m ds vs d Q l x vl e q
  obtain ⟨a, b, rfl, hc, rfl⟩ := dII_inv e
  obtain ⟨fp, r⟩ := vl.rep
  obtain ⟨v, w, f1, f2, rfl, h1, h2, _⟩ := repL2 r
  exact ⟨v, w, rfl, a, b, rInt h1, rInt h2, hc, q _ H1 Ext.refl (val_flat rep_int)⟩
theorem cp_i2 {f : Int → Int → Int} : CP X (r2 (rI0 fun i j => .int (f i j))) (dI2 f) toFlat := by
  intro P LL g H H1 m ds vs d Q l x vl e q
  obtain ⟨a, b, rfl, rfl⟩ := dI2_inv e
  obtain ⟨fp, r⟩ := vl.rep
  obtain ⟨v, w, f1, f2, rfl, h1, h2, _⟩ := repL2 r
  exact ⟨v, w, rfl, a, b, rInt h1, rInt h2, q _ H1 Ext.refl (val_flat rep_int)⟩
theorem cp_b2 {f : Int → Int → Bool} : CP X (r2 (rI0 fun i j => .bl (f i j))) (dB2 f) toFlat := by
  intro P LL g H H1 m ds vs d Q l x vl e q
  obtain ⟨a, b, rfl, rfl⟩ := dB2_inv e
  obtain ⟨fp, r⟩ := vl.rep
  obtain ⟨v, w, f1, f2, rfl, h1, h2, _⟩ := repL2 r
  exact ⟨v, w, rfl, a, b, rInt h1, rInt h2, q _ H1 Ext.refl (val_flat rep_bl)⟩
theorem cp_u {f : Int → Int} : CP X (r1 (rU fun i => .int (f i))) (dI1 f) toFlat := by
  intro P LL g H H1 m ds vs d Q l x vl e q
  obtain ⟨a, rfl, rfl⟩ := dI1_inv e
  obtain ⟨fp, r⟩ := vl.rep
  obtain ⟨v, rfl, h1⟩ := repL1 r
  exact ⟨v, rfl, a, rInt h1, q _ H1 Ext.refl (val_flat rep_int)⟩
end
instance : DecidableRel CDivW := fun _ _ => inferInstanceAs (Decidable (_ ∧ _))
instance : DecidableRel CMulX := fun i j => decidable_of_iff (Builtin.Int.intBits i + Builtin.Int.intBits j ≤ 134217728) (by unfold CMulX; omega)
instance : DecidableRel CPow := fun _ _ => inferInstanceAs (Decidable (_ ∧ _ ∧ _))
def CPos (_ j : Int) : Prop := 0 < j
instance : DecidableRel CPos := fun _ j => inferInstanceAs (Decidable (0 < j))
abbrev dAdd := dI2 fun i j => i + j
abbrev dSub := dI2 fun i j => i - j
abbrev dMul := dII CMulX fun i j => i * j
abbrev dDiv := dII CDivW fun i j => i / j
abbrev dMod := dII CPos fun i j => i % j
abbrev dPow := dII CPow fun i j => i ^ j.toNat
abbrev dNeg := dI1 fun i => -i
abbrev dLt := dB2 fun i j => decide (i < j)
abbrev dGt := dB2 fun i j => decide (j < i)
abbrev dGe := dB2 fun i j => decide (j ≤ i)
section
variable {X : Cx} {LL : List Nat} {Γ : List Kd} {pos : Pos} {a b : Expr} {sa sb : Ev} {ma mb : Md}
theorem ex_add (ha : EX X LL Γ a sa ma) (hb : EX X LL Γ b sb mb) : EX X LL Γ (.BinOp a .Add b pos) (eP dAdd (aCons sa (aCons sb aNil))) .flat := ex_bin op_add cp_i2 ha hb
theorem ex_sub (ha : EX X LL Γ a sa ma) (hb : EX X LL Γ b sb mb) : EX X LL Γ (.BinOp a .Sub b pos) (eP dSub (aCons sa (aCons sb aNil))) .flat := ex_bin op_sub cp_i2 ha hb
theorem ex_mul (ha : EX X LL Γ a sa ma) (hb : EX X LL Γ b sb mb) : EX X LL Γ (.BinOp a .Mult b pos) (eP dMul (aCons sa (aCons sb aNil))) .flat := ex_bin op_mulX cp_ii ha hb
theorem ex_div (ha : EX X LL Γ a sa ma) (hb : EX X LL Γ b sb mb) : EX X LL Γ (.BinOp a .FloorDiv b pos) (eP dDiv (aCons sa (aCons sb aNil))) .flat := ex_bin op_fdivW cp_ii ha hb
theorem ex_mod (ha : EX X LL Γ a sa ma) (hb : EX X LL Γ b sb mb) : EX X LL Γ (.BinOp a .Mod b pos) (eP dMod (aCons sa (aCons sb aNil))) .flat := ex_bin (op_mod (X := X)) (cp_ii (C := CPos)) ha hb
theorem ex_pow (ha : EX X LL Γ a sa ma) (hb : EX X LL Γ b sb mb) : EX X LL Γ (.BinOp a .Pow b pos) (eP dPow (aCons sa (aCons sb aNil))) .flat := ex_bin op_pow cp_ii ha hb
theorem ex_neg (ha : EX X LL Γ a sa ma) : EX X LL Γ (.UnaryOp .USub a pos) (eP dNeg (aCons sa aNil)) .flat := ex_un un_neg cp_u ha
theorem et_lt (ha : EX X LL Γ a sa ma) (hb : EX X LL Γ b sb mb) : ET X LL Γ (.Compare a [.Lt] [b] pos) (tOf (eP dLt (aCons sa (aCons sb aNil)))) := et_cmp op_lt cp_b2 ha hb (nomark _)
theorem et_gt (ha : EX X LL Γ a sa ma) (hb : EX X LL Γ b sb mb) : ET X LL Γ (.Compare a [.Gt] [b] pos) (tOf (eP dGt (aCons sa (aCons sb aNil)))) := et_cmp op_gt cp_b2 ha hb (nomark _)
theorem ex_ge (ha : EX X LL Γ a sa ma) (hb : EX X LL Γ b sb mb) : EX X LL Γ (.Compare a [.GtE] [b] pos) (eP dGe (aCons sa (aCons sb aNil))) .flat := ex_cmp op_ge cp_b2 ha hb (nomark _)
end
end VV

/-! ## VSeq -/
namespace VV
open PySem PySem.Spec PyProof.Rows L2

mutual
def D.isFlat : D → Bool
  | .tup l => D.isFlatL l
  | .lst _ => false
  | .dic _ _ _ => false
  | .obj _ _ _ => false
  | .dix _ _ => false
  | _ => true
def D.isFlatL : List D → Bool
  | [] => true
  | d :: r => d.isFlat && D.isFlatL r
end
mutual
theorem Rep.flat {mg : Mg} {H : Hp} : ∀ {d : D} {v : V} {fp : List Addr}, Rep mg H d v fp → d.isFlat = true → fp = []
  | .non, _, _, h, _ => by simp only [Rep] at h; exact h.2
  | .bl _, _, _, h, _ => by simp only [Rep] at h; exact h.2
  | .int _, _, _, h, _ => by simp only [Rep] at h; exact h.2
  | .str _, _, _, h, _ => by simp only [Rep] at h; exact h.2
  | .fn _, _, _, h, _ => by simp only [Rep] at h; exact h.2
  | .kti _, _, _, h, _ => by simp only [Rep] at h; exact h.2
  | .dix _ _, _, _, _, f => by simp [D.isFlat] at f
  | .tup l, _, _, h, f => by
    simp only [Rep] at h
    obtain ⟨a, vs, rfl, _, h2⟩ := h
    exact RepL.flat h2 (by simpa only [D.isFlat] using f)
  | .lst _, _, _, _, f => by simp [D.isFlat] at f
  | .scr _, _, _, h, _ => by simp only [Rep] at h; obtain ⟨_, _, _, _, _, e⟩ := h; exact e
  | .dic _ _ _, _, _, _, f => by simp [D.isFlat] at f
  | .obj _ _ _, _, _, _, f => by simp [D.isFlat] at f
theorem RepL.flat {mg : Mg} {H : Hp} : ∀ {ds : List D} {vs : List V} {fp : List Addr}, RepL mg H ds vs fp → D.isFlatL ds = true → fp = []
  | [], _, _, h, _ => by simp only [RepL] at h; exact h.2
  | d :: ds, _, _, h, f => by
    simp only [RepL] at h
    obtain ⟨v, r, f1, f2, rfl, h1, h2, rfl⟩ := h
    simp only [D.isFlatL, Bool.and_eq_true] at f
    rw [Rep.flat h1 f.1, RepL.flat h2 f.2]
    rfl
end

/-! ### what is known of a result by a look at its tree -/
def eChk (p : D → Bool) (s : Ev) : Ev := fun ρ => (s ρ).filter p
def D.isLst : D → Bool
  | .lst _ => true
  | _ => false
def D.isTup : D → Bool
  | .tup _ => true
  | _ => false
def D.kidsFlat : D → Bool
  | .lst l => D.isFlatL l
  | .dic _ _ l => D.isFlatL l
  | _ => false
section
variable {X : Cx} {LL : List Nat} {Γ : List Kd} {pos : Pos} {e : Expr} {s : Ev}
theorem ex_flat {m : Md} (h : EX X LL Γ e s m) : EX X LL Γ e (eChk D.isFlat s) .flat := by
  obtain ⟨t, p, k⟩ := h
  refine ⟨t, p, fun P g ρ σ H d Q st hs q => ?_⟩
  obtain ⟨h1, h2⟩ := Option.filter_eq_some_iff.mp hs
  refine k P g ρ σ H d Q st h1 fun v H' x w => q v H' x ?_
  cases m with
  | flat => exact w
  | al fr rt L nd =>
    obtain ⟨fp, r, _⟩ := w
    rw [r.flat h2] at r
    exact r
def Md.isNew : Md → Bool
  | .al _ .new _ _ => true
  | _ => false
theorem ex_kids {m : Md} (h : EX X LL Γ e s m) (hm : m.isNew = true := by rfl) : EX X LL Γ e (eChk D.kidsFlat s) (.al false .new [] true) := by
  obtain ⟨fr, L, nd, rfl⟩ : ∃ fr L nd, m = .al fr .new L nd := by
    cases m with
    | flat => cases hm
    | al fr rt L nd =>
      cases rt with
      | new => exact ⟨fr, L, nd, rfl⟩
      | old n => cases hm
      | unk => cases hm
  obtain ⟨t, p, k⟩ := h
  refine ⟨t, p, fun P g ρ σ H d Q st hs q => ?_⟩
  obtain ⟨h1, h2⟩ := Option.filter_eq_some_iff.mp hs
  refine k P g ρ σ H d Q st h1 fun v H' x w => q v H' x ?_
  obtain ⟨fp, r, o⟩ := w
  have key : ∀ a, v = .ref a → fp = [a] → Val X.vm P g H H' (.al false .new [] true) d v := by
    intro a e1 e2
    subst e1; subst e2
    refine ⟨[a], r, fun b hb => ?_, .of (by simp)⟩
    obtain rfl := List.mem_singleton.mp hb
    rcases o.1 b hb with z | ⟨z | z, _⟩
    · exact .inl z
    · exact absurd rfl z
    · cases z
  cases d with
  | lst l =>
    have r0 := r
    simp only [Rep] at r0
    obtain ⟨a, vs, f, rfl, _, r2, rfl⟩ := r0
    exact key a rfl (by rw [r2.flat h2])
  | dic tk ks l =>
    have r0 := r
    simp only [Rep] at r0
    obtain ⟨a, vs, f, rfl, _, r2, rfl⟩ := r0
    exact key a rfl (by rw [r2.flat h2])
  | _ => cases h2
end

/-! ### len, items -/
def dLen : List D → Option D
  | [.lst l] => some (.int l.length)
  | [.scr l] => some (.int l.length)
  | [.tup l] => some (.int l.length)
  | [.str s] => if s.length ≤ sizeLine then some (.int s.length) else none
  | _ => none
def dIdx : List D → Option D
  | [.lst l, .int i] => atI l i
  | [.scr l, .int i] => atI l i
  | [.tup l, .int i] => atI l i
  | [.str s, .int i] => if s.length ≤ sizeLine then (atI s.cps.toList i).map fun c => .str ⟨#[c]⟩ else none
  | _ => none
def Md.child : Md → Md
  | .flat => .flat
  | .al fr rt L nd => if nd then .al fr .unk L true else (Md.al fr rt L nd).unroot
section
variable {X : Cx}
theorem cp_len : CP X (fun xs H Q => ∃ x n, xs = [x] ∧ LenV X.K x H n ∧ Q (.int n) H) dLen toFlat := by
  intro P LL g H H1 m ds vs d Q l x vl e q
  obtain ⟨fp, r⟩ := vl.rep
  unfold dLen at e
  split at e
  · cases e
    obtain ⟨v, rfl, h⟩ := repL1 r
    simp only [Rep] at h
    obtain ⟨a, vs, f, rfl, ha, h2, rfl⟩ := h
    exact ⟨_, _, rfl, .inl ⟨vs, SqL.of ha, rfl⟩, by rw [h2.length]; exact q _ H1 Ext.refl (val_flat rep_int)⟩
  · cases e
    obtain ⟨v, rfl, h⟩ := repL1 r
    simp only [Rep] at h
    obtain ⟨a, vs, rfl, ha, h2, rfl⟩ := h
    exact ⟨_, _, rfl, .inl ⟨vs, ha.sq, rfl⟩, by rw [h2.length]; exact q _ H1 Ext.refl (val_flat rep_int)⟩
  · cases e
    obtain ⟨v, rfl, h⟩ := repL1 r
    simp only [Rep] at h
    obtain ⟨a, vs, rfl, ha, h2⟩ := h
    exact ⟨_, _, rfl, .inr ⟨vs, .inl (.inl ha), rfl⟩, by rw [h2.length]; exact q _ H1 Ext.refl (val_flat rep_int)⟩
  · split at e
    · cases e
      obtain ⟨v, rfl, h⟩ := repL1 r
      obtain rfl := rStr h
      exact ⟨_, _, rfl, ⟨by assumption, rfl⟩, q _ H1 Ext.refl (val_flat rep_int)⟩
    · cases e
  · cases e
theorem val_child {mg : Mg} {P : Fm} {g : Addr → Nat} {H H1 : Hp} {m : Md} {d0 : D} {v0 : V} {d : D} {v : V} (h : Val mg P g H H1 m d0 v0)
    (he : ∀ fp, Rep mg H1 d0 v0 fp → ∃ f1 f f2, Rep mg H1 d v f ∧ ((∃ a, v0 = .ref a ∧ fp = a :: (f1 ++ f ++ f2)) ∨ (fp = f1 ++ f ++ f2 ∧ ∀ a, v0 = .ref a → a ∉ fp))) : Val mg P g H H1 m.child d v := by
  cases m with
  | flat =>
    obtain ⟨f1, f, f2, r, ⟨a, _, e⟩ | ⟨e, _⟩⟩ := he [] h
    · cases e
    · have : f = [] := by
        have := congrArg List.length e
        simp at this
        exact List.eq_nil_of_length_eq_zero (by omega)
      subst this
      exact r
  | al fr rt L nd =>
    obtain ⟨fp, r, o⟩ := h
    obtain ⟨f1, f, f2, rf, hh⟩ := he fp r
    have hs : ∀ a ∈ f, a ∈ fp := fun a ha => by
      rcases hh with ⟨b, _, rfl⟩ | ⟨rfl, _⟩
      · exact List.mem_cons_of_mem _ (List.mem_append_left _ (List.mem_append_right _ ha))
      · exact List.mem_append_left _ (List.mem_append_right _ ha)
    have hn : nd = true → f.Nodup := fun h => by
      have n := o.2.1 h
      rcases hh with ⟨b, _, rfl⟩ | ⟨rfl, _⟩
      · have n := (List.nodup_cons.mp n).2
        exact (List.nodup_append.mp (List.nodup_append.mp n).1).2.1
      · exact (List.nodup_append.mp (List.nodup_append.mp n).1).2.1
    cases nd with
    | true =>
      refine ⟨f, rf, fun a ha => ?_, .unk fun h => hn rfl⟩
      rcases o.1 a (hs a ha) with ⟨e, y⟩ | ⟨_, y⟩
      · exfalso
        rcases hh with ⟨b, e2, rfl⟩ | ⟨_, z⟩
        · rw [e2] at e; cases e
          exact (List.nodup_cons.mp (o.2.1 rfl)).1 (List.mem_append_left _ (List.mem_append_right _ ha))
        · exact z a e (hs a ha)
      · exact .inr ⟨.inr rfl, y⟩
    | false =>
      have q := o.unroot
      show Val mg P g H H1 (Md.al fr rt L false).unroot d v
      cases rt <;> exact ⟨f, rf, fun a ha => .inr ⟨.inr rfl, q.1 a (hs a ha)⟩, .unk fun h => nomatch h⟩
theorem rd_tup {H : Hp} {a : Addr} {xs : List V} (r : Rd H a (.tup xs)) {u : HO} (q : Rd H a u) (h : ∀ o, u ≠ .frz o (.tup xs)) (h' : ∀ ys, u ≠ .tup ys) (h2 : ∀ o w, u ≠ .frz o w) : False := by
  rcases r with r | ⟨o, r⟩ <;> rcases q with q | ⟨o', q⟩ <;> rw [r] at q <;> cases q
  · exact h' _ rfl
  · exact h2 _ _ rfl
  · exact h' _ rfl
mutual
/-- the footprint does not have tuples -/
theorem Rep.notup {mg : Mg} {H : Hp} : ∀ {d : D} {v : V} {fp : List Addr}, Rep mg H d v fp → ∀ {a : Addr} {xs : List V}, Rd H a (.tup xs) → a ∉ fp
  | .non, _, _, h, _, _, _ => by simp only [Rep] at h; rw [h.2]; simp
  | .bl _, _, _, h, _, _, _ => by simp only [Rep] at h; rw [h.2]; simp
  | .int _, _, _, h, _, _, _ => by simp only [Rep] at h; rw [h.2]; simp
  | .str _, _, _, h, _, _, _ => by simp only [Rep] at h; rw [h.2]; simp
  | .fn _, _, _, h, _, _, _ => by simp only [Rep] at h; rw [h.2]; simp
  | .kti _, _, _, h, _, _, _ => by simp only [Rep] at h; rw [h.2]; simp
  | .dix ks ds, _, _, h, _, _, r => by
    simp only [Rep] at h
    obtain ⟨b, xs, rfl, ⟨e, _⟩, _, _, rfl⟩ := h
    intro hm
    obtain rfl := List.mem_singleton.mp hm
    exact rd_tup r e (fun _ z => nomatch z) (fun _ z => nomatch z) (fun _ _ z => nomatch z)
  | .tup ds, _, _, h, _, _, r => by
    simp only [Rep] at h
    obtain ⟨_, vs, rfl, _, h2⟩ := h
    exact RepL.notup h2 r
  | .lst ds, _, _, h, _, _, r => by
    simp only [Rep] at h
    obtain ⟨b, vs, f, rfl, e, h2, rfl⟩ := h
    intro hm
    rcases List.mem_cons.mp hm with rfl | hm
    · exact rd_tup r (.inl e) (fun _ z => nomatch z) (fun _ z => nomatch z) (fun _ _ z => nomatch z)
    · exact RepL.notup h2 r hm
  | .scr ds, _, _, h, a, _, r => by
    simp only [Rep] at h
    obtain ⟨b, vs, rfl, e, h2, rfl⟩ := h
    simp
  | .dic tk ks ds, _, _, h, _, _, r => by
    simp only [Rep] at h
    obtain ⟨b, vs, f, rfl, ⟨_, e⟩, h2, rfl⟩ := h
    intro hm
    rcases List.mem_cons.mp hm with rfl | hm
    · cases tk <;> obtain ⟨_, _, e⟩ := e
      · exact rd_tup r e (fun _ z => nomatch z) (fun _ z => nomatch z) (fun _ _ z => nomatch z)
      · exact rd_tup r e (fun _ z => nomatch z) (fun _ z => nomatch z) (fun _ _ z => nomatch z)
    · exact RepL.notup h2 r hm
  | .obj c ns ds, _, _, h, _, _, r => by
    simp only [Rep] at h
    obtain ⟨b, C, dx, vs, f, rfl, _, _, e, h2, rfl⟩ := h
    intro hm
    rcases List.mem_cons.mp hm with rfl | hm
    · exact rd_tup r (.inl e) (fun _ z => nomatch z) (fun _ z => nomatch z) (fun _ _ z => nomatch z)
    · exact RepL.notup h2 r hm
theorem RepL.notup {mg : Mg} {H : Hp} : ∀ {ds : List D} {vs : List V} {fp : List Addr}, RepL mg H ds vs fp → ∀ {a : Addr} {xs : List V}, Rd H a (.tup xs) → a ∉ fp
  | [], _, _, h, _, _, _ => by simp only [RepL] at h; rw [h.2]; simp
  | d :: ds, _, _, h, _, _, r => by
    simp only [RepL] at h
    obtain ⟨v, r', f1, f2, rfl, h1, h2, rfl⟩ := h
    intro hm
    rcases List.mem_append.mp hm with hm | hm
    · exact Rep.notup h1 r hm
    · exact RepL.notup h2 r hm
end
theorem dIdx_child {mg : Mg} {P : Fm} {g : Addr → Nat} {H H1 : Hp} {K : PySem.W.Frag} {m : Md} {d0 d : D} {i : Int} {v0 : V} {Q : VK} (hK : mg.K = K) (h : Val mg P g H H1 m d0 v0) (e : dIdx [d0, .int i] = some d)
    (q : ∀ v, Val mg P g H H1 m.child d v → Q v H1) : rIx K v0 (.int i) H1 Q := by
  have get : ∀ (l : List D) (us : List V) (f : List Addr), atI l i = some d → RepL mg H1 l us f → ∃ z g1 g2 g3, atI us i = some z ∧ Rep mg H1 d z g2 ∧ f = g1 ++ g2 ++ g3 := fun l us f e r => by
    unfold atI at e
    obtain ⟨j, e1, e2⟩ := bind_some e
    obtain ⟨z, g1, g2, g3, e3, rz, rfl⟩ := r.get e2
    exact ⟨z, g1, g2, g3, by unfold atI; rw [r.length, e1]; exact e3, rz, rfl⟩
  have some_fp : ∃ fp, Rep mg H1 d0 v0 fp := let ⟨fp, r, _⟩ := h.unroot; ⟨fp, r⟩
  obtain ⟨fp0, r0⟩ := some_fp
  cases d0 with
  | lst l =>
    have e : atI l i = some d := e
    simp only [Rep] at r0
    obtain ⟨a, us, f, rfl, ha, h3, rfl⟩ := r0
    obtain ⟨z, g1, g2, g3, e3, rz, rfl⟩ := get l us _ e h3
    refine .inl ⟨a, us, _, z, rfl, rfl, SqL.of ha, e3, q _ (val_child h fun fp r => ?_)⟩
    simp only [Rep] at r
    obtain ⟨b, us', f', eb, hb, h3', rfl⟩ := r
    cases eb
    rw [ha] at hb; cases hb
    obtain ⟨z', k1, k2, k3, e3', rz', rfl⟩ := get l us _ e h3'
    rw [e3] at e3'; cases e3'
    exact ⟨k1, k2, k3, rz', .inl ⟨a, rfl, rfl⟩⟩
  | scr l =>
    have e : atI l i = some d := e
    simp only [Rep] at r0
    obtain ⟨a, us, rfl, ha, h3, rfl⟩ := r0
    obtain ⟨z, g1, g2, g3, e3, rz, e4⟩ := get l us _ e h3
    have e5 : g2 = [] := by
      have := congrArg List.length e4
      simp at this
      exact List.eq_nil_of_length_eq_zero (by omega)
    subst e5
    refine .inl ⟨a, us, _, z, rfl, rfl, hK ▸ ha.sq, e3, q _ (val_child h fun fp r => ?_)⟩
    simp only [Rep] at r
    obtain ⟨b, us', eb, hb, h3', rfl⟩ := r
    exact ⟨[], [], [], rz, .inr ⟨rfl, fun a' ea => nofun⟩⟩
  | tup l =>
    have e : atI l i = some d := e
    simp only [Rep] at r0
    obtain ⟨a, us, rfl, ha, h3⟩ := r0
    obtain ⟨z, g1, g2, g3, e3, rz, rfl⟩ := get l us _ e h3
    refine .inr (.inl ⟨a, us, _, z, rfl, rfl, .inl (.inl ha), e3, q _ (val_child h fun fp r => ?_)⟩)
    have r1 := r
    simp only [Rep] at r
    obtain ⟨b, us', eb, hb, h3'⟩ := r
    cases eb
    have eus : us' = us := by
      rw [ha] at hb; cases hb; rfl
    subst eus
    obtain ⟨z', k1, k2, k3, e3', rz', rfl⟩ := get l us' _ e h3'
    rw [e3] at e3'; cases e3'
    exact ⟨k1, k2, k3, rz', .inr ⟨rfl, fun a' ea => by cases ea; exact r1.notup (.inl ha)⟩⟩
  | str s =>
    unfold dIdx at e
    simp only at e
    split at e
    · obtain ⟨c, e1, rfl⟩ := Option.map_eq_some_iff.mp e
      obtain rfl := rStr r0
      refine .inr (.inr ⟨_, _, c, rfl, rfl, by assumption, e1, q _ (val_child h fun fp r => ?_)⟩)
      simp only [Rep] at r
      exact ⟨[], [], [], rep_str, .inr ⟨r.2, fun a' ea => nomatch ea⟩⟩
    · cases e
  | _ => cases e
end
section
variable {X : Cx} {LL : List Nat} {Γ : List Kd} {pos : Pos} {a b : Expr} {sa sb : Ev} {ma mb : Md}
theorem dIdx_int {d0 x d : D} (e : dIdx [d0, x] = some d) : ∃ i, x = .int i := by
  unfold dIdx at e
  split at e <;> first | (rename_i h; cases h; exact ⟨_, rfl⟩) | cases e
theorem ex_idx (ha : EX X LL Γ a sa ma) (hb : EX X LL Γ b sb mb) (hs : PlainIx b := by exact fun _ _ => rfl) : EX X LL Γ (.Subscript a b pos) (eP dIdx (aCons sa (aCons sb aNil))) ma.child := by
  obtain ⟨ta, tb, pa, pb, k⟩ := two ha hb
  refine ⟨_, pe_ix ix_seq pa pb hs, fun P g ρ σ H d Q s e q => ?_⟩
  obtain ⟨ds, e1, e⟩ := bind_some e
  refine k P g ρ σ H ds _ s e1 fun d1 d2 v w H' eds x va vb vl => ?_
  subst eds
  obtain ⟨i, rfl⟩ := dIdx_int e
  obtain ⟨fp, rw', _⟩ := vb.unroot
  obtain rfl := rInt rw'
  exact dIdx_child rfl va e fun v2 w2 => q v2 H' x w2
end
end VV

/-! ## VEq -/
namespace VV
open PySem PySem.Spec PyProof.Rows L2
mutual
def D.toP : D → PyData
  | .non => .none
  | .bl b => .bool b
  | .int i => .int i
  | .str s => .str s
  | .tup l => .tuple (D.toPL l)
  | .lst l => .list (D.toPL l)
  | .scr l => .list (D.toPL l)
  | .kti l => .tuple (l.map PyData.int)
  | _ => .dict []
def D.toPL : List D → List PyData
  | [] => []
  | d :: r => d.toP :: D.toPL r
end
theorem dpAll_nums {K : PySem.W.Frag} {H : Hp} : ∀ ns : List Int, DpAll K H (ns.map V.int) (ns.map PyData.int)
  | [] => .nil
  | a :: r => .cons (.int a) (dpAll_nums r)
mutual
theorem Rep.dp {mg : Mg} {H : Hp} : ∀ {d : D} {v : V} {fp : List Addr}, Rep mg H d v fp → d.toP.canLay0 = true → Dp mg.K H v d.toP
  | .non, _, _, h, _ => by simp only [Rep] at h; rw [h.1]; exact .non
  | .bl b, _, _, h, _ => by simp only [Rep] at h; rw [h.1]; exact .bl b
  | .int i, _, _, h, _ => by simp only [Rep] at h; rw [h.1]; exact .int i
  | .str s, _, _, h, _ => by simp only [Rep] at h; rw [h.1]; exact .str s
  | .tup l, _, _, h, c => by
    simp only [Rep] at h
    obtain ⟨a, vs, rfl, r, h2⟩ := h
    simp only [D.toP, PyData.canLay0] at c ⊢
    exact .tup (.inl (.inl r)) (RepL.dp h2 c)
  | .lst l, _, _, h, c => by
    simp only [Rep] at h
    obtain ⟨a, vs, f, rfl, r, h2, _⟩ := h
    simp only [D.toP, PyData.canLay0] at c ⊢
    exact .lst (SqL.of r) (RepL.dp h2 c)
  | .scr l, _, _, h, c => by
    simp only [Rep] at h
    obtain ⟨a, vs, rfl, r, h2, _⟩ := h
    simp only [D.toP, PyData.canLay0] at c ⊢
    exact .lst r.sq (RepL.dp h2 c)
  | .dic _ _ _, _, _, _, c => by simp [D.toP, PyData.canLay0] at c
  | .obj _ _ _, _, _, _, c => by simp [D.toP, PyData.canLay0] at c
  | .fn _, _, _, _, c => by simp [D.toP, PyData.canLay0] at c
  | .kti l, _, _, h, _ => by
    simp only [Rep] at h
    obtain ⟨⟨a, o, rfl, r, _⟩, _⟩ := h
    simp only [D.toP]
    exact .tup (.inl (.inr ⟨o, r⟩)) (dpAll_nums l)
  | .dix _ _, _, _, _, c => by simp [D.toP, PyData.canLay0] at c
theorem RepL.dp {mg : Mg} {H : Hp} : ∀ {ds : List D} {vs : List V} {fp : List Addr}, RepL mg H ds vs fp → PyData.canLayAll0 (D.toPL ds) = true → DpAll mg.K H vs (D.toPL ds)
  | [], _, _, h, _ => by simp only [RepL] at h; rw [h.1]; exact .nil
  | d :: ds, _, _, h, c => by
    simp only [RepL] at h
    obtain ⟨v, r, f1, f2, rfl, h1, h2, _⟩ := h
    simp only [D.toPL, PyData.canLayAll0, Bool.and_eq_true] at c ⊢
    exact .cons (Rep.dp h1 c.1) (RepL.dp h2 c.2)
end
def D.eqv (a b : D) : Bool := PyData.eqv a.toP b.toP
def D.shd (a : D) : Bool := SeqAt.shaped a.toP
def dEq : List D → Option D
  | [a, b] => if a.shd && b.shd then some (.bl (a.eqv b)) else none
  | _ => none
def dNe : List D → Option D
  | [a, b] => if a.shd && b.shd then some (.bl (!a.eqv b)) else none
  | _ => none
section
variable {X : Cx}
theorem cp_eq : CP X (r2 (rEqD X.K)) dEq toFlat := by
  intro P LL g H H1 m ds vs d Q l x vl e q
  obtain ⟨fp, r⟩ := vl.rep
  unfold dEq at e
  split at e
  · split at e
    · cases e
      rename_i h
      rw [Bool.and_eq_true] at h
      obtain ⟨v, w, f1, f2, rfl, h1, h2, _⟩ := repL2 r
      exact ⟨v, w, rfl, _, _, h1.dp (SeqAt.canLay_of_shaped h.1), h2.dp (SeqAt.canLay_of_shaped h.2), h.1, h.2, q _ H1 Ext.refl (val_flat rep_bl)⟩
    · cases e
  · cases e
theorem cp_ne : CP X (r2 (rNeD X.K)) dNe toFlat := by
  intro P LL g H H1 m ds vs d Q l x vl e q
  obtain ⟨fp, r⟩ := vl.rep
  unfold dNe at e
  split at e
  · split at e
    · cases e
      rename_i h
      rw [Bool.and_eq_true] at h
      obtain ⟨v, w, f1, f2, rfl, h1, h2, _⟩ := repL2 r
      exact ⟨v, w, rfl, _, _, h1.dp (SeqAt.canLay_of_shaped h.1), h2.dp (SeqAt.canLay_of_shaped h.2), h.1, h.2, q _ H1 Ext.refl (val_flat rep_bl)⟩
    · cases e
  · cases e
end
section
variable {X : Cx} {LL : List Nat} {Γ : List Kd} {pos : Pos} {a b : Expr} {sa sb : Ev} {ma mb : Md}
theorem ex_eq (hu : X.A.units + 64 < cLine) (ha : EX X LL Γ a sa ma) (hb : EX X LL Γ b sb mb) : EX X LL Γ (.Compare a [.Eq] [b] pos) (eP dEq (aCons sa (aCons sb aNil))) .flat := ex_cmp (op_eqD hu) cp_eq ha hb (nomark _)
theorem et_eq (hu : X.A.units + 64 < cLine) (ha : EX X LL Γ a sa ma) (hb : EX X LL Γ b sb mb) : ET X LL Γ (.Compare a [.Eq] [b] pos) (tOf (eP dEq (aCons sa (aCons sb aNil)))) := et_cmp (op_eqD hu) cp_eq ha hb (nomark _)
theorem et_ne (hu : X.A.units + 64 < cLine) (ha : EX X LL Γ a sa ma) (hb : EX X LL Γ b sb mb) : ET X LL Γ (.Compare a [.NotEq] [b] pos) (tOf (eP dNe (aCons sa (aCons sb aNil)))) := et_cmp (op_neD hu) cp_ne ha hb (nomark _)
end
end VV

/-! ## VStmt -/
namespace VV
open PySem PySem.Spec PyProof.Rows L2

inductive Out where
  | nx (ρ : List D) | ct (ρ : List D) | rt (d : D) | ex (c : Str) (ρ : List D)
/-- what a def hands back -/
inductive Rm where
  | flat | fresh | out
  /-- new things, perhaps the same more than once -/
  | news
  /-- new things and an argument's, no node twice -/
  | outN
  deriving DecidableEq
inductive Res where
  | ret (d : D) | exn (c : Str)

structure Step (LL : List Nat) (g : Addr → Nat) (H : Hp) (g' : Addr → Nat) (H' : Hp) : Prop where
  kp : ∀ a, lk LL (g a) → ∀ u, H a = some u → H' a = some u
  lk : ∀ a, H a ≠ none → lk LL (g a) → g' a = g a
  th : ∀ a, H a ≠ none → H' a ≠ none
theorem Step.refl {LL : List Nat} {g : Addr → Nat} {H : Hp} : Step LL g H g H := ⟨fun _ _ _ h => h, fun _ _ _ => rfl, fun _ h => h⟩
theorem Step.trans {LL : List Nat} {g g1 g2 : Addr → Nat} {H H1 H2 : Hp} (a : Step LL g H g1 H1) (b : Step LL g1 H1 g2 H2) : Step LL g H g2 H2 where
  kp c h u e := b.kp c (by rw [a.lk c (by rw [e]; simp) h]; exact h) u (a.kp c h u e)
  lk c e h := (b.lk c (a.th c e) (by rw [a.lk c e h]; exact h)).trans (a.lk c e h)
  th c e := b.th c (a.th c e)
theorem Step.ext {LL : List Nat} {g : Addr → Nat} {H H' : Hp} (e : Ext H H') : Step LL g H g H' := ⟨fun a _ u h => e a u h, fun _ _ _ => rfl, fun a h z => h (e.nope z)⟩

def RV (mg : Mg) (P : Fm) (g : Addr → Nat) (H : Hp) : Rm → D → V → Prop
  | .flat, d, v => Rep mg H d v []
  | .fresh, d, v => ∃ fp, Rep mg H d v fp ∧ fp.Nodup ∧ ∀ a ∈ fp, g a ≠ 0
  | .out, d, v => ∃ fp, Rep mg H d v fp ∧ ∀ a ∈ fp, g a ≠ 0 ∨ P.out a
  | .news, d, v => ∃ fp, Rep mg H d v fp ∧ ∀ a ∈ fp, g a ≠ 0
  | .outN, d, v => ∃ fp, Rep mg H d v fp ∧ fp.Nodup ∧ ∀ a ∈ fp, g a ≠ 0 ∨ P.out a

/-- what is fixed through a def's body: the locked labels, what it returns, what stands at a continue and at an exception -/
structure Sc where
  LL : List Nat
  R : Rm
  Γc : List Kd
  Γx : List Kd

def WantS (X : Cx) (W : L2.WX) (sc : Sc) (P : Fm) (Γ' : List Kd) (g : Addr → Nat) (H : Hp) (D : Ends) : Out → Prop
  | .nx ρ' => ∀ g' σ' H', Step sc.LL g H g' H' → Sta X.vm P sc.LL Γ' g' ρ' σ' H' → D.nx σ' H'
  | .ct ρ' => ∀ g' σ' H', Step sc.LL g H g' H' → Sta X.vm P sc.LL sc.Γc g' ρ' σ' H' → D.ct σ' H'
  | .rt d => ∀ v g' H', Step sc.LL g H g' H' → Loc P sc.LL g' H' → RV X.vm P g' H' sc.R d v → D.rt v H'
  | .ex c ρ' => ∀ C g' σ' H', X.mg c = some (.ref C) → Step sc.LL g H g' H' → Sta X.vm P sc.LL sc.Γx g' ρ' σ' H' → W (.ref C) none σ' H'

abbrev Sv := List D → Option Out
def SX (X : Cx) (W : L2.WX) (sc : Sc) (Γ : List Kd) (st : Stmt) (sem : Sv) (Γ' : List Kd) : Prop :=
  ∃ t, PS X st t ∧ ∀ P g ρ σ H o D, Sta X.vm P sc.LL Γ g ρ σ H → sem ρ = some o → WantS X W sc P Γ' g H D o → t D σ H
def SS (X : Cx) (W : L2.WX) (sc : Sc) (Γ : List Kd) (st : List Stmt) (sem : Sv) (Γ' : List Kd) : Prop :=
  ∃ t, PSs X st t ∧ ∀ P g ρ σ H o D, Sta X.vm P sc.LL Γ g ρ σ H → sem ρ = some o → WantS X W sc P Γ' g H D o → t D σ H

def sNil : Sv := fun ρ => some (.nx ρ)
def sSeq (a b : Sv) : Sv := fun ρ => match a ρ with
  | some (.nx ρ') => b ρ'
  | o => o
def sPass : Sv := fun ρ => some (.nx ρ)
def sCont : Sv := fun ρ => some (.ct ρ)
def sRet (e : Ev) : Sv := fun ρ => do some (.rt (← e ρ))
def sSet (i : Nat) (e : Ev) : Sv := fun ρ => do some (.nx (ρ.set i (← e ρ)))
def sIf (c : List D → Option Bool) (a b : Sv) : Sv := fun ρ => do if (← c ρ) then a ρ else b ρ

theorem WantS.from {X : Cx} {W : L2.WX} {sc : Sc} {P : Fm} {Γ' : List Kd} {g g1 : Addr → Nat} {H H1 : Hp} {D : Ends} {o : Out} (h : WantS X W sc P Γ' g H D o) (s : Step sc.LL g H g1 H1) : WantS X W sc P Γ' g1 H1 D o := by
  cases o with
  | nx ρ' => exact fun g' σ' H' s' st => h g' σ' H' (s.trans s') st
  | ct ρ' => exact fun g' σ' H' s' st => h g' σ' H' (s.trans s') st
  | rt d => exact fun v g' H' s' l r => h v g' H' (s.trans s') l r
  | ex c ρ' => exact fun C g' σ' H' m s' st => h C g' σ' H' m (s.trans s') st

section
variable {X : Cx} {W : L2.WX} {sc : Sc} {Γ Γ' Γ1 : List Kd} {pos : Pos}
theorem ss_nil : SS X W sc Γ [] sNil Γ := ⟨_, pss_nil, fun P g ρ σ H o D s e w => by cases e; exact w g σ H .refl s⟩
theorem ss_cons {st : Stmt} {rest : List Stmt} {a b : Sv} (h : SX X W sc Γ st a Γ1) (h' : SS X W sc Γ1 rest b Γ') : SS X W sc Γ (st :: rest) (sSeq a b) Γ' := by
  obtain ⟨t, p, k⟩ := h
  obtain ⟨u, p', k'⟩ := h'
  refine ⟨_, pss_cons p p', fun P g ρ σ H o D s e w => ?_⟩
  unfold sSeq at e
  cases ea : a ρ with
  | none => rw [ea] at e; cases e
  | some o1 =>
    rw [ea] at e
    cases o1 with
    | nx ρ' => exact k P g ρ σ H _ { D with nx := u D } s ea fun g' σ' H' s' st => k' P g' ρ' σ' H' o D st e (w.from s')
    | ct ρ' => cases e; exact k P g ρ σ H _ { D with nx := u D } s ea w
    | rt d => cases e; exact k P g ρ σ H _ { D with nx := u D } s ea w
    | ex c ρ' => cases e; exact k P g ρ σ H _ { D with nx := u D } s ea w
theorem ss_one {st : Stmt} {a : Sv} (h : SX X W sc Γ st a Γ') : SS X W sc Γ [st] a Γ' := by
  obtain ⟨t, p, k⟩ := h
  exact ⟨_, pss_one p, k⟩

/-! ### labels for what is new -/
open Classical in
noncomputable def relab (g : Addr → Nat) (H H' : Hp) (v : V) (n m : Nat) : Addr → Nat := fun a => if New H H' a then (if v = .ref a then n else m) else g a
theorem relab_new {g : Addr → Nat} {H H' : Hp} {v : V} {n m : Nat} {a : Addr} (h : New H H' a) : relab g H H' v n m a = if v = .ref a then n else m := by
  unfold relab; rw [if_pos h]
theorem relab_old {g : Addr → Nat} {H H' : Hp} {v : V} {n m : Nat} {a : Addr} (h : H a ≠ none) : relab g H H' v n m a = g a := by
  unfold relab; rw [if_neg fun z => h z.1]
section
variable {mg : Mg} {P : Fm} {LL : List Nat} {g : Addr → Nat} {ρ : List D} {σ : L2.St} {H H' : Hp} {v : V} {n m : Nat}
theorem Old.relab {L : List Nat} {a : Addr} (o : Old P g L a) (l : Loc P LL g H) : Old P (relab g H H' v n m) L a := by
  unfold Old
  rw [relab_old (o.there l)]
  exact o
theorem Loc.relab (l : Loc P LL g H) (e : Ext H H') : Loc P LL (relab g H H' v n m) H' := by
  refine ⟨fun a h => ?_, (l.ext e).out, fun a h => ?_⟩
  rotate_left
  · have := l.fz a h
    obtain ⟨⟨o, u, q⟩, this2⟩ := this
    exact ⟨⟨o, u, e a _ q⟩, by rw [relab_old (by rw [q]; simp)]; exact this2⟩
  by_cases hn : New H H' a
  · obtain ⟨h1, h2⟩ := hn
    cases q : H' a with
    | none => rw [q] at h2; exact h2.elim
    | some o => rw [q] at h2; exact ⟨o, rfl, .inl h2⟩
  · by_cases h0 : H a = none
    · unfold VV.relab at h
      rw [if_neg hn] at h
      obtain ⟨o, e1, _⟩ := l.at_ a h
      rw [h0] at e1; cases e1
    · rw [relab_old h0] at h
      exact (l.ext e).at_ a h
theorem CellOk.relab {k : Kd} {d : D} {ov : Option V} (c : CellOk mg P g H k d ov) (l : Loc P LL g H) (e : Ext H H') : CellOk mg P (relab g H H' v n m) H' k d ov := by
  cases k with
  | dead => trivial
  | exc _ _ => exact c
  | ob m Ls =>
    obtain ⟨b, C, dx, c, ns, vs, ds, fps, rfl, rfl, hc, hl, r, ob, rs, fs, nd⟩ := c
    exact ⟨b, C, dx, c, ns, vs, ds, fps, rfl, rfl, hc, hl, e b _ r, ⟨ob.1.relab l, ob.2⟩, rs.mono fun d v f h => h.ext e, fs.mono fun b L h => h.relab l, nd⟩
  | flat => obtain ⟨v, rfl, r⟩ := c; exact ⟨v, rfl, r.ext e⟩
  | lab rt L nd =>
    obtain ⟨w, fp, rfl, r, o, z⟩ := c
    refine ⟨w, fp, rfl, r.ext e, fun a ha => ?_, z⟩
    rcases o a ha with ⟨x, k, y, o'⟩ | ⟨x, o'⟩
    · exact .inl ⟨x, k, y, o'.relab l⟩
    · exact .inr ⟨x, o'.relab l⟩
theorem Cells.relab (l : Loc P LL g H) (e : Ext H H') : ∀ {Γ : List Kd} {ρ : List D} {σ : L2.St}, Cells mg P g H Γ ρ σ → Cells mg P (relab g H H' v n m) H' Γ ρ σ
  | [], [], [], _ => trivial
  | _ :: _, _ :: _, _ :: _, h => ⟨h.1.relab l e, Cells.relab l e h.2⟩
  | [], _ :: _, _, h => h.elim
  | [], [], _ :: _, h => h.elim
  | _ :: _, [], _, h => h.elim
  | _ :: _, _ :: _, [], h => h.elim
theorem Sta.relab {Γ : List Kd} (s : Sta mg P LL Γ g ρ σ H) (e : Ext H H') : Sta mg P LL Γ (relab g H H' v n m) ρ σ H' := ⟨s.loc.relab e, s.cells.relab s.loc e⟩
theorem Step.relab (e : Ext H H') : Step LL g H (relab g H H' v n m) H' := ⟨fun a _ u h => e a u h, fun a h x => relab_old h, fun a h z => h (e.nope z)⟩
end
/-- the kind of a slot that holds a result -/
def Md.kind (n m : Nat) : Md → Kd
  | .flat => .flat
  | .al fr rt L nd => .lab (match rt with | .new => some n | .old k => some k | .unk => none) (if fr then (match rt with | .unk => n :: m :: L | _ => m :: L) else L) nd
theorem Val.cell {mg : Mg} {P : Fm} {LL : List Nat} {g : Addr → Nat} {H H' : Hp} {m : Md} {d : D} {v : V} {n k : Nat} (h : Val mg P g H H' m d v) (l : Loc P LL g H) (h1 : n ≠ 0) (h2 : k ≠ 0) :
    CellOk mg P (relab g H H' v n k) H' (m.kind n k) d (some v) := by
  cases m with
  | flat => exact ⟨v, rfl, h⟩
  | al fr rt L nd =>
    obtain ⟨fp, r, o, z⟩ := h
    refine ⟨v, fp, rfl, r, fun a ha => ?_, by cases rt <;> exact z⟩
    have newOld : ∀ {K : List Nat}, New H H' a → (v = .ref a → n ∈ K) → (v ≠ .ref a → k ∈ K) → Old P (relab g H H' v n k) K a := fun {K} hn a1 a2 => by
      unfold Old
      rw [relab_new hn]
      split
      · rename_i e; exact ⟨a1 e, fun z => absurd z h1⟩
      · rename_i e; exact ⟨a2 e, fun z => absurd z h2⟩
    rcases o a ha with ⟨e, y⟩ | ⟨e, ⟨f, y⟩ | y⟩
    · cases rt with
      | new => exact .inl ⟨e, n, rfl, newOld y (fun _ => List.mem_cons_self) fun z => absurd e z⟩
      | old q => exact .inl ⟨e, q, rfl, Old.relab y l⟩
      | unk => exact y.elim
    · subst f
      refine .inr ⟨?_, ?_⟩
      · rcases e with e | rfl
        · exact .inl e
        · exact .inr rfl
      · cases rt with
        | new => exact newOld y (fun z => by rcases e with e | e; exact absurd z e; cases e) fun _ => List.mem_cons_self
        | old q => exact newOld y (fun z => by rcases e with e | e; exact absurd z e; cases e) fun _ => List.mem_cons_self
        | unk => exact newOld y (fun _ => List.mem_cons_self) fun _ => List.mem_cons_of_mem _ List.mem_cons_self
    · refine .inr ⟨?_, ?_⟩
      · rcases e with e | rfl
        · exact .inl e
        · exact .inr rfl
      · have y' : Old P (relab g H H' v n k) L a := Old.relab y l
        refine ⟨?_, y'.2⟩
        cases fr with
        | false => exact y'.1
        | true =>
          cases rt with
          | new => exact List.mem_cons_of_mem _ y'.1
          | old q => exact List.mem_cons_of_mem _ y'.1
          | unk => exact List.mem_cons_of_mem _ (List.mem_cons_of_mem _ y'.1)
theorem Cells.set {mg : Mg} {P : Fm} {g : Addr → Nat} {H : Hp} {k : Kd} {d : D} {v : V} : ∀ {Γ : List Kd} {ρ : List D} {σ : L2.St} (i : Nat), Cells mg P g H Γ ρ σ → CellOk mg P g H k d (some v) → Cells mg P g H (Γ.set i k) (ρ.set i d) (σ.set i (some v))
  | [], [], [], _, _, _ => trivial
  | _ :: _, _ :: _, _ :: _, 0, h, c => ⟨c, h.2⟩
  | _ :: _, _ :: _, _ :: _, i + 1, h, c => ⟨h.1, Cells.set i h.2 c⟩
  | [], _ :: _, _, _, h, _ => h.elim
  | [], [], _ :: _, _, h, _ => h.elim
  | _ :: _, [], _, _, h, _ => h.elim
  | _ :: _, _ :: _, [], _, h, _ => h.elim

theorem sx_set {i : Nat} {x : Str} {e : Expr} {se : Ev} {m : Md} {pos' : Pos} (n k : Nat) (hN : X.N.Nodup) (hi : X.N[i]? = some x) (hx : L2.Loc X.env.scope x) (he : EX X sc.LL Γ e se m)
    (hs : swapsWith e (some (.Name x pos')) pos.line X.env = pure false := by rfl) (hf : X.fn x = true ∨ X.env.scope.names.lookup x = some .local := by first | exact .inl rfl | exact .inr rfl | assumption)
    (h1 : n ≠ 0 := by decide) (h2 : k ≠ 0 := by decide) : SX X W sc Γ (.Assign [.Name x pos'] e pos) (sSet i se) (Γ.set i (m.kind n k)) := by
  obtain ⟨t, p, kk⟩ := he
  refine ⟨_, ps_set hN hi hx p hs hf, fun P g ρ σ H o D s e w => ?_⟩
  obtain ⟨d, e1, e⟩ := bind_some e
  cases e
  refine kk P g ρ σ H d _ s e1 fun v H' x vl => ?_
  exact w (relab g H H' v n k) _ H' (.relab x) ⟨s.loc.relab x, Cells.set i (s.cells.relab s.loc x) (vl.cell s.loc h1 h2)⟩

theorem wipe_get (σ : L2.St) (j : Nat) : ∀ vs : List Nat, (wipe σ vs)[j]? = if j ∈ vs then σ[j]?.map (fun _ => none) else σ[j]?
  | [] => by simp [wipe]
  | v :: vs => by
    unfold wipe
    rw [List.getElem?_set, wipe_length, wipe_get σ j vs]
    by_cases e : v = j
    · subst e
      simp only [if_true, List.mem_cons_self]
      by_cases h : v < σ.length
      · simp [h]
      · simp [h]
    · rw [if_neg e]
      have : (j ∈ v :: vs) ↔ j ∈ vs := by simp [Ne.symm e]
      simp only [this]
theorem wipe_set {σ : L2.St} {i : Nat} {x : Option V} {vs : List Nat} (h : i ∈ vs) : wipe (σ.set i x) vs = wipe σ vs := by
  apply List.ext_getElem?
  intro j
  rw [wipe_get, wipe_get, List.getElem?_set]
  by_cases e : i = j
  · subst e
    rw [if_pos h, if_pos h, if_pos rfl]
    by_cases hl : i < σ.length
    · simp [hl]
    · simp [hl]
  · rw [if_neg e]
def Wp (S : List Nat) (σ σ' : L2.St) : Prop := ∀ vs : List Nat, (∀ i ∈ S, i ∈ vs) → wipe σ' vs = wipe σ vs
/-! ### targets -/
abbrev Tv := D → List D → Option (List D)
def EG (X : Cx) (Γ : List Kd) (tg : Expr) (k : Kd) (sem : Tv) (Γ' : List Kd) (S : List Nat) : Prop :=
  ∃ t, PG X tg t ∧ ∀ P LL g ρ σ H d v ρ' (Q : L2.St → Hp → Prop), Sta X.vm P LL Γ g ρ σ H → CellOk X.vm P g H k d (some v) → sem d ρ = some ρ' → (∀ σ', Sta X.vm P LL Γ' g ρ' σ' H → Wp S σ σ' → Q σ' H) → t v σ H Q
def EGs (X : Cx) (Γ : List Kd) (tgs : List Expr) (k : Kd) (sem : List D → List D → Option (List D)) (Γ' : List Kd) (S : List Nat) : Prop :=
  (∀ ds ρ ρ', sem ds ρ = some ρ' → ds.length = tgs.length) ∧ ∃ t, PGs X tgs t ∧ ∀ P LL g ρ σ H (ds : List D) (vs : List V) ρ' (Q : L2.St → Hp → Prop), Sta X.vm P LL Γ g ρ σ H → (∀ (i : Nat) (d : D) (v : V), ds[i]? = some d → vs[i]? = some v → CellOk X.vm P g H k d (some v)) → vs.length = ds.length → sem ds ρ = some ρ' →
    (∀ σ', Sta X.vm P LL Γ' g ρ' σ' H → Wp S σ σ' → Q σ' H) → t vs σ H Q
def gN (i : Nat) : Tv := fun d ρ => some (ρ.set i d)
def gF (t : Tv) : Tv := fun d ρ => if d.isFlat then t d ρ else none
def gT (ts : List D → List D → Option (List D)) : Tv := fun d ρ => match d with
  | .tup l => ts l ρ
  | _ => none
def gsNil : List D → List D → Option (List D) := fun ds ρ => match ds with
  | [] => some ρ
  | _ => none
def gsCons (t : Tv) (ts : List D → List D → Option (List D)) : List D → List D → Option (List D) := fun ds ρ => match ds with
  | d :: r => do ts r (← t d ρ)
  | [] => none
theorem eg_name {i : Nat} {x : Str} {k : Kd} (hN : X.N.Nodup) (hi : X.N[i]? = some x) (hx : L2.Loc X.env.scope x) (hf : X.fn x = true ∨ X.env.scope.names.lookup x = some .local := by first | exact .inl rfl | exact .inr rfl | assumption) : EG X Γ (.Name x pos) k (gN i) (Γ.set i k) [i] :=
  ⟨_, pg_name hN hi hx hf, fun P LL g ρ σ H d v ρ' Q s c e q => by cases e; exact q _ ⟨s.loc, Cells.set i s.cells c⟩ fun vs h => wipe_set (h i List.mem_cons_self)⟩
theorem eg_flat {tg : Expr} {k : Kd} {t : Tv} {S : List Nat} (h : EG X Γ tg .flat t Γ' S) (hk : k.use = true := by decide) : EG X Γ tg k (gF t) Γ' S := by
  obtain ⟨u, p, kk⟩ := h
  refine ⟨u, p, fun P LL g ρ σ H d v ρ' Q s c e q => ?_⟩
  unfold gF at e
  split at e
  · rename_i hfl
    refine kk P LL g ρ σ H d v ρ' Q s ?_ e q
    cases k with
    | dead => cases hk
    | exc _ _ => cases hk
    | ob _ _ => cases hk
    | flat => exact c
    | lab rt L nd =>
      obtain ⟨w, fp, ew, r, _⟩ := c
      cases ew
      rw [r.flat hfl] at r
      exact ⟨v, rfl, r⟩
  · cases e
def Kd.tupChild : Kd → Kd
  | .lab _ L nd => .lab none L nd
  | k => k
theorem cell_tup {mg : Mg} {P : Fm} {g : Addr → Nat} {H : Hp} {k : Kd} {ds : List D} {v : V} (c : CellOk mg P g H k (.tup ds) (some v)) (hk : k.use = true) :
    ∃ a vs, v = .ref a ∧ H a = some (.tup vs) ∧ vs.length = ds.length ∧ ∀ (i : Nat) (d : D) (w : V), ds[i]? = some d → vs[i]? = some w → CellOk mg P g H k.tupChild d (some w) := by
  cases k with
  | dead => cases hk
  | exc _ _ => cases hk
  | ob _ _ => cases hk
  | flat =>
    obtain ⟨v', e, r⟩ := c
    cases e
    simp only [Rep] at r
    obtain ⟨a, vs, rfl, r1, r2⟩ := r
    refine ⟨a, vs, rfl, r1, r2.length, fun i d w e1 e2 => ?_⟩
    obtain ⟨w', f1, f, f2, e3, r3, e4⟩ := r2.get e1
    rw [e2] at e3; cases e3
    have : f = [] := by
      have := congrArg List.length e4
      simp at this
      exact List.eq_nil_of_length_eq_zero (by omega)
    subst this
    exact ⟨w, rfl, r3⟩
  | lab rt L nd =>
    obtain ⟨v', fp, e, r, o, z⟩ := c
    cases e
    have r0 := r
    simp only [Rep] at r
    obtain ⟨a, vs, rfl, r1, r2⟩ := r
    refine ⟨a, vs, rfl, r1, r2.length, fun i d w e1 e2 => ?_⟩
    obtain ⟨w', f1, f, f2, e3, r3, rfl⟩ := r2.get e1
    rw [e2] at e3; cases e3
    refine ⟨w, f, rfl, r3, fun b hb => ?_, .unk fun hn => ?_⟩
    · rcases o b (List.mem_append_left _ (List.mem_append_right _ hb)) with ⟨x, _⟩ | ⟨_, x⟩
      · cases x
        exact absurd (List.mem_append_left _ (List.mem_append_right _ hb)) (r0.notup (.inl r1))
      · exact .inr ⟨.inr rfl, x⟩
    · exact (List.nodup_append.mp (List.nodup_append.mp (z.1 hn)).1).2.1
theorem egs_nil {k : Kd} : EGs X Γ [] k gsNil Γ [] := by
  refine ⟨fun ds ρ ρ' e => ?_, _, pgs_nil, fun P LL g ρ σ H ds vs ρ' Q s c hl e q => ?_⟩
  · cases ds with
    | nil => rfl
    | cons => cases e
  · cases ds with
    | nil => cases e; exact ⟨List.eq_nil_of_length_eq_zero hl, q σ s fun _ _ => rfl⟩
    | cons => cases e
theorem egs_cons {tg : Expr} {tgs : List Expr} {k : Kd} {t : Tv} {ts : List D → List D → Option (List D)} {S S' : List Nat} (h : EG X Γ tg k t Γ1 S) (h' : EGs X Γ1 tgs k ts Γ' S')
    (hs : (assignEach (tg :: tgs) X.env).map (·.2) = assign tg X.env :: (assignEach tgs X.env).map (·.2) := by rfl) : EGs X Γ (tg :: tgs) k (gsCons t ts) Γ' (S ++ S') := by
  obtain ⟨u, p, kk⟩ := h
  obtain ⟨hl, u', p', kk'⟩ := h'
  refine ⟨fun ds ρ ρ' e => ?_, _, pgs_cons p p' hs, fun P LL g ρ σ H ds vs ρ' Q s c hlen e q => ?_⟩
  · cases ds with
    | nil => cases e
    | cons d r =>
      obtain ⟨ρ1, e1, e2⟩ := bind_some e
      simp [hl r ρ1 ρ' e2]
  · cases ds with
    | nil => cases e
    | cons d r =>
      obtain ⟨ρ1, e1, e2⟩ := bind_some e
      cases vs with
      | nil => cases hlen
      | cons v vr =>
        refine ⟨v, vr, rfl, kk P LL g ρ σ H d v ρ1 _ s (c 0 d v rfl rfl) e1 fun σ' s' w1 => ?_⟩
        exact kk' P LL g ρ1 σ' H r vr ρ' Q s' (fun i d' v' h1 h2 => c (i + 1) d' v' (by simpa using h1) (by simpa using h2)) (by simpa using hlen) e2 fun σ2 s2 w2 => q σ2 s2 fun vs hv =>
          (w2 vs fun i hi => hv i (List.mem_append_right _ hi)).trans (w1 vs fun i hi => hv i (List.mem_append_left _ hi))
theorem eg_tup {es : List Expr} {c : Nat} {k : Kd} {ts : List D → List D → Option (List D)} {S : List Nat} (hc : X.calm = true) (h : EGs X Γ es k.tupChild ts Γ' S) (hk : k.use = true := by decide)
    (hst : (assignEach es X.env).findIdx? (·.1) = none := by rfl) (hn : (assignEach es X.env).length = es.length := by rfl) : EG X Γ (.Tuple es c pos) k (gT ts) Γ' S := by
  obtain ⟨hl, u, p, kk⟩ := h
  refine ⟨_, pg_tup hc p hn hst, fun P LL g ρ σ H d v ρ' Q s cc e q => ?_⟩
  cases d with
  | tup ds =>
    obtain ⟨a, vs, rfl, r, hlen, hcells⟩ := cell_tup cc hk
    exact ⟨a, vs, rfl, .inl (.inl r), by rw [hlen, hl ds ρ ρ' e], kk P LL g ρ σ H ds vs ρ' Q s hcells hlen e q⟩
  | _ => cases e
def sAsg (t : Tv) (e : Ev) : Sv := fun ρ => do some (.nx (← t (← e ρ) ρ))
theorem sx_asg {tg e : Expr} {se : Ev} {t : Tv} {m : Md} {S : List Nat} (n k : Nat) (he : EX X sc.LL Γ e se m) (hg : EG X Γ tg (m.kind n k) t Γ' S) (hs : swapsWithSole [tg] e pos.line X.env = pure false := by rfl) (hw : swappedStores [tg] e X.env = pure none := by rfl)
    (ha : (assignEach [tg] X.env).map (·.2) = [assign tg X.env] := by rfl) (h1 : n ≠ 0 := by decide) (h2 : k ≠ 0 := by decide) : SX X W sc Γ (.Assign [tg] e pos) (sAsg t se) Γ' := by
  obtain ⟨u, p, kk⟩ := he
  obtain ⟨u', p', kk'⟩ := hg
  refine ⟨_, ps_asg p p' hs hw ha, fun P g ρ σ H o D s e w => ?_⟩
  obtain ⟨d, e1, e⟩ := bind_some e
  obtain ⟨ρ', e2, e⟩ := bind_some e
  cases e
  refine kk P g ρ σ H d _ s e1 fun v H' x vl => ?_
  exact kk' P sc.LL (relab g H H' v n k) ρ σ H' d v ρ' D.nx (s.relab x) (vl.cell s.loc h1 h2) e2 fun σ' s' _ => w _ σ' H' (.relab x) s'
theorem sx_if {c : Expr} {a b : List Stmt} {s : List D → Option Bool} {sa sb : Sv} (hc : ET X sc.LL Γ c s) (ha : SS X W sc Γ a sa Γ') (hb : SS X W sc Γ b sb Γ') : SX X W sc Γ (.If c a b pos) (sIf s sa sb) Γ' := by
  obtain ⟨t, p, k⟩ := hc
  obtain ⟨ta, pa, ka⟩ := ha
  obtain ⟨tb, pb, kb⟩ := hb
  refine ⟨_, ps_if p pa pb, fun P g ρ σ H o D st e w => ?_⟩
  obtain ⟨c', e0, e⟩ := bind_some e
  refine k P g ρ σ H c' _ st e0 fun H' x => ?_
  cases c' with
  | true => exact iteT (ka P g ρ σ H' o D (st.ext x) (by simpa using e) (w.from (.ext x)))
  | false => exact iteF (kb P g ρ σ H' o D (st.ext x) (by simpa using e) (w.from (.ext x)))
/-- a result that may be handed back -/
def Md.ret : Md → Rm → Bool
  | .flat, _ => true
  | .al _ _ _ _, .flat => false
  | .al fr rt L nd, .fresh => nd && !L.contains 0 && (match rt with | .old 0 => false | _ => true)
  | .al _ _ _ _, .out => true
  | .al fr rt L nd, .news => !L.contains 0 && (match rt with | .old 0 => false | _ => true)
  | .al _ _ _ nd, .outN => nd
theorem sx_ret {e : Expr} {se : Ev} {m : Md} (he : EX X sc.LL Γ e se m) (hr : m.ret sc.R = true := by rfl) : SX X W sc Γ (.Return (some e) pos) (sRet se) Γ' := by
  obtain ⟨t, p, kk⟩ := he
  refine ⟨_, ps_ret p, fun P g ρ σ H o D s e w => ?_⟩
  obtain ⟨d, e1, e⟩ := bind_some e
  cases e
  refine kk P g ρ σ H d _ s e1 fun v H' x vl => ?_
  refine w v (relab g H H' v 1 1) H' (.relab x) (s.loc.relab x) ?_
  have c := vl.cell (n := 1) (k := 1) s.loc (by decide) (by decide)
  cases m with
  | flat =>
    have r : Rep X.vm H' d v [] := vl
    cases hR : sc.R with
    | flat => exact r
    | fresh => exact ⟨[], r, by simp, fun a ha => nomatch ha⟩
    | out => exact ⟨[], r, fun a ha => nomatch ha⟩
    | news => exact ⟨[], r, fun a ha => nomatch ha⟩
    | outN => exact ⟨[], r, by simp, fun a ha => nomatch ha⟩
  | al fr rt L nd =>
    obtain ⟨fp, r, o, z⟩ := vl
    have lab : ∀ a ∈ fp, New H H' a ∨ (Old P g L a) ∨ (∃ n, rt = .old n ∧ Old P g [n] a) := fun a ha => by
      rcases o a ha with ⟨e, y⟩ | ⟨_, ⟨_, y⟩ | y⟩
      · cases rt with
        | new => exact .inl y
        | old n => exact .inr (.inr ⟨n, rfl, y⟩)
        | unk => exact y.elim
      · exact .inl y
      · exact .inr (.inl y)
    cases hR : sc.R with
    | flat => rw [hR] at hr; cases hr
    | fresh =>
      rw [hR] at hr
      simp only [Md.ret, Bool.and_eq_true] at hr
      obtain ⟨⟨h1, h2⟩, h3⟩ := hr
      refine ⟨fp, r, z.1 h1, fun a ha => ?_⟩
      rcases lab a ha with y | y | ⟨n, rfl, y⟩
      · rw [relab_new y]; split <;> decide
      · rw [relab_old (y.there s.loc)]
        intro e0
        have := y.1
        rw [e0] at this
        simp [this] at h2
      · rw [relab_old (y.there s.loc)]
        intro e0
        have := y.1
        rw [e0] at this
        rw [← List.mem_singleton.mp this] at h3
        cases h3
    | news =>
      rw [hR] at hr
      simp only [Md.ret, Bool.and_eq_true] at hr
      obtain ⟨h2, h3⟩ := hr
      refine ⟨fp, r, fun a ha => ?_⟩
      rcases lab a ha with y | y | ⟨n, rfl, y⟩
      · rw [relab_new y]; split <;> decide
      · rw [relab_old (y.there s.loc)]
        intro e0
        have := y.1
        rw [e0] at this
        simp [this] at h2
      · rw [relab_old (y.there s.loc)]
        intro e0
        have := y.1
        rw [e0] at this
        rw [← List.mem_singleton.mp this] at h3
        cases h3
    | outN =>
      rw [hR] at hr
      refine ⟨fp, r, z.1 hr, fun a ha => ?_⟩
      rcases lab a ha with y | y | ⟨n, rfl, y⟩
      · rw [relab_new y]; exact .inl (by split <;> decide)
      · rw [relab_old (y.there s.loc)]
        by_cases e0 : g a = 0
        · exact .inr (y.2 e0)
        · exact .inl e0
      · rw [relab_old (y.there s.loc)]
        by_cases e0 : g a = 0
        · exact .inr (y.2 e0)
        · exact .inl e0
    | out =>
      refine ⟨fp, r, fun a ha => ?_⟩
      rcases lab a ha with y | y | ⟨n, rfl, y⟩
      · rw [relab_new y]; exact .inl (by split <;> decide)
      · rw [relab_old (y.there s.loc)]
        by_cases e0 : g a = 0
        · exact .inr (y.2 e0)
        · exact .inl e0
      · rw [relab_old (y.there s.loc)]
        by_cases e0 : g a = 0
        · exact .inr (y.2 e0)
        · exact .inl e0
def sRetN : Sv := fun _ => some (.rt .non)
end
end VV

/-! ## VFun -/
namespace VV
open PySem PySem.Spec PyProof.Rows L2

/-! ### fewer things known -/
def reL (m : List (Nat × Nat)) (n : Nat) : Nat := (m.lookup n).getD n
def Kd.le (m : List (Nat × Nat)) : Kd → Kd → Bool
  | _, .dead => true
  | .flat, .flat => true
  | .flat, .lab _ _ _ => true
  | .lab rt L nd, .lab rt' L' nd' => (match rt' with
      | some n => (match rt with | some k => reL m k == n | none => false) && L.all fun x => L'.contains (reL m x)
      | none => (match rt with | some k => L'.contains (reL m k) | none => true) && L.all fun x => L'.contains (reL m x)) && (!nd' || nd)
  | .ob n Ls, .ob n' Ls' => decide (n' = reL m n ∧ Ls' = Ls.map fun L => L.map (reL m))
  | _, _ => false
def kdsLe (m : List (Nat × Nat)) : List Kd → List Kd → Bool
  | [], [] => true
  | k :: r, k' :: r' => k.le m k' && kdsLe m r r'
  | _, _ => false
def mapOk (LL : List Nat) (m : List (Nat × Nat)) : Bool := m.all fun p => p.1 != 0 && p.2 != 0 && !LL.contains p.1
section
variable {mg : Mg} {P : Fm} {LL : List Nat} {g : Addr → Nat} {ρ : List D} {σ : L2.St} {H : Hp} {m : List (Nat × Nat)}
theorem lookup_mem {α β : Type} [BEq α] [LawfulBEq α] {l : List (α × β)} {a : α} {b : β} (h : l.lookup a = some b) : (a, b) ∈ l := by
  induction l with
  | nil => cases h
  | cons p r ih =>
    obtain ⟨x, y⟩ := p
    rw [List.lookup_cons] at h
    split at h
    · rename_i e
      cases h
      rw [eq_of_beq e]
      exact List.mem_cons_self
    · exact List.mem_cons_of_mem _ (ih h)
theorem reL_ok (h : mapOk LL m = true) (n : Nat) : (reL m n = 0 ↔ n = 0) ∧ (n ∈ LL → reL m n = n) := by
  unfold reL
  cases e : m.lookup n with
  | none => simp
  | some k =>
    have := List.all_eq_true.mp h _ (lookup_mem e)
    simp only [Bool.and_eq_true, bne_iff_ne, ne_eq, Bool.not_eq_true'] at this
    obtain ⟨⟨h1, h2⟩, h3⟩ := this
    simp only [Option.getD_some]
    refine ⟨⟨fun z => absurd z h2, fun z => absurd z h1⟩, fun hm => ?_⟩
    simp at h3
    exact absurd hm h3
theorem Old.re {L L' : List Nat} {a : Addr} (h : mapOk LL m = true) (o : Old P g L a) (hs : L.all (fun x => L'.contains (reL m x)) = true) : Old P (fun a => reL m (g a)) L' a := by
  refine ⟨?_, fun e => o.2 ((reL_ok h _).1.mp e)⟩
  have := List.all_eq_true.mp hs _ o.1
  simpa using this
theorem FpS.re (h : mapOk LL m = true) : ∀ {fs : List (List Addr)} {Ls : List (List Nat)}, FpS (fun b L => Old P g L b) fs Ls → FpS (fun b L => Old P (fun a => reL m (g a)) L b) fs (Ls.map (·.map (reL m)))
  | [], [], _ => trivial
  | _ :: _, L :: _, k => ⟨fun b hb => (k.1 b hb).re h (by simp [List.all_eq_true]; exact fun x hx => ⟨x, hx, rfl⟩), FpS.re h k.2⟩
  | [], _ :: _, k => k.elim
  | _ :: _, [], k => k.elim
theorem CellOk.re {k k' : Kd} {d : D} {ov : Option V} (h : mapOk LL m = true) (hk : k.le m k' = true) (c : CellOk mg P g H k d ov) : CellOk mg P (fun a => reL m (g a)) H k' d ov := by
  cases k' with
  | dead => trivial
  | flat =>
    cases k with
    | flat => exact c
    | dead => cases hk
    | exc => cases hk
    | lab => cases hk
    | ob => cases hk
  | exc a c => cases k <;> cases hk
  | ob n' Ls' =>
    cases k with
    | ob n Ls =>
      obtain ⟨e1, e2⟩ := of_decide_eq_true hk
      subst e1 e2
      obtain ⟨a, C, dx, c, ns, vs, ds, fps, rfl, rfl, hc, hl, r, o, rs, fs, nd⟩ := c
      exact ⟨a, C, dx, c, ns, vs, ds, fps, rfl, rfl, hc, hl, r, ⟨o.1.re h (by simp), o.2⟩, rs, FpS.re h fs, nd⟩
    | dead => cases hk
    | flat => cases hk
    | exc => cases hk
    | lab => cases hk
  | lab rt' L' nd' =>
    cases k with
    | dead => cases hk
    | exc => cases hk
    | ob => cases hk
    | flat =>
      obtain ⟨v, rfl, r⟩ := c
      exact ⟨v, [], rfl, r, (fun a ha => by cases ha), .of List.nodup_nil⟩
    | lab rt L nd =>
      obtain ⟨v, fp, rfl, r, o, z⟩ := c
      simp only [Kd.le, Bool.and_eq_true] at hk
      obtain ⟨hk, hn⟩ := hk
      refine ⟨v, fp, rfl, r, fun a ha => ?_, fun e => z.1 (by subst e; simpa using hn), fun e => z.2 ?_⟩
      rotate_left
      · cases rt' with
        | none => cases e
        | some n =>
          cases rt with
          | none => simp at hk
          | some k => rfl
      cases rt' with
      | some n =>
        cases rt with
        | none => simp at hk
        | some k =>
          simp only [Bool.and_eq_true] at hk
          rcases o a ha with ⟨x, q, e, y⟩ | ⟨x, y⟩
          · cases e
            refine .inl ⟨x, n, rfl, Old.re h y ?_⟩
            simp [eq_of_beq hk.1]
          · refine .inr ⟨?_, Old.re h y hk.2⟩
            rcases x with x | x
            · exact .inl x
            · cases x
      | none =>
        simp only [Bool.and_eq_true] at hk
        rcases o a ha with ⟨x, q, e, y⟩ | ⟨x, y⟩
        · subst e
          refine .inr ⟨.inr rfl, Old.re h y ?_⟩
          have h1 := hk.1
          simp only at h1
          simpa using h1
        · exact .inr ⟨.inr rfl, Old.re h y hk.2⟩
theorem Cells.re (h : mapOk LL m = true) : ∀ {Γ Γ' : List Kd} {ρ : List D} {σ : L2.St}, kdsLe m Γ Γ' = true → Cells mg P g H Γ ρ σ → Cells mg P (fun a => reL m (g a)) H Γ' ρ σ
  | [], [], [], [], _, _ => trivial
  | k :: Γ, k' :: Γ', d :: ρ, v :: σ, hk, c => by
    simp only [kdsLe, Bool.and_eq_true] at hk
    exact ⟨c.1.re h hk.1, Cells.re h hk.2 c.2⟩
  | [], _ :: _, _, _, hk, _ => by cases hk
  | _ :: _, [], _, _, hk, _ => by cases hk
  | [], _, _ :: _, _, _, c => c.elim
  | [], _, [], _ :: _, _, c => c.elim
  | _ :: _, _, [], _, _, c => c.elim
  | _ :: _, _, _ :: _, [], _, c => c.elim
theorem Sta.re {Γ Γ' : List Kd} (h : mapOk LL m = true) (hk : kdsLe m Γ Γ' = true) (s : Sta mg P LL Γ g ρ σ H) : Sta mg P LL Γ' (fun a => reL m (g a)) ρ σ H := by
  refine ⟨⟨fun a ha => ?_, s.loc.out, fun a ha => ?_⟩, s.cells.re h hk⟩
  · exact s.loc.at_ a fun z => ha ((reL_ok h _).1.mpr z)
  · have := s.loc.fz a ha
    refine ⟨this.1, ?_⟩
    rcases this.2 with x | x
    · exact .inl ((reL_ok h _).1.mpr x)
    · right
      show reL m (g a) ∈ LL
      rw [(reL_ok h _).2 x]
      exact x
theorem Step.re (h : mapOk LL m = true) : Step LL g H (fun a => reL m (g a)) H := by
  refine ⟨fun a _ u e => e, fun a _ x => ?_, fun a e => e⟩
  rcases x with x | x
  · show reL m (g a) = g a
    rw [x]
    exact (reL_ok h _).1.mpr rfl
  · exact (reL_ok h _).2 x
end
section
variable {X : Cx} {W : L2.WX} {sc : Sc} {Γ Γ' Γ1 : List Kd} {pos : Pos}
theorem ss_conv {sts : List Stmt} {s : Sv} (m : List (Nat × Nat)) (h : SS X W sc Γ sts s Γ1) (hm : mapOk sc.LL m = true) (hk : kdsLe m Γ1 Γ' = true) : SS X W sc Γ sts s Γ' := by
  obtain ⟨t, p, k⟩ := h
  refine ⟨t, p, fun P g ρ σ H o D st e w => k P g ρ σ H o D st e ?_⟩
  cases o with
  | nx ρ' => exact fun g' σ' H' s' st' => w _ σ' H' (s'.trans (.re hm)) (st'.re hm hk)
  | ct ρ' => exact w
  | rt d => exact w
  | ex c ρ' => exact w
end

/-! ### defs -/
def RF (mg : Mg) (H H' : Hp) (fp : List Addr) : Rm → D → V → Prop
  | .flat, d, v => Rep mg H' d v []
  | .fresh, d, v => ∃ f, Rep mg H' d v f ∧ f.Nodup ∧ ∀ a ∈ f, New H H' a
  | .out, d, v => ∃ f, Rep mg H' d v f ∧ ∀ a ∈ f, New H H' a ∨ a ∈ fp
  | .news, d, v => ∃ f, Rep mg H' d v f ∧ ∀ a ∈ f, New H H' a
  | .outN, d, v => ∃ f, Rep mg H' d v f ∧ f.Nodup ∧ ∀ a ∈ f, New H H' a ∨ a ∈ fp
def sp0 (mg : Mg) (sem : List D → Option Res) (n : Nat) (R : Rm) : Sp := fun vs H Q _ => vs.length = n ∧ ∃ ds fp d, RepL mg H ds vs fp ∧ sem ds = some (.ret d) ∧ ∀ v H', Ext H H' → RF mg H H' fp R d v → Q v H'
def pkOk : List Kd → List D → Bool
  | [], [] => true
  | .flat :: r, d :: ds => d.isFlat && pkOk r ds
  | .lab none [0] false :: r, _ :: ds => pkOk r ds
  | _, _ => false
def fnSem (n : Nat) (pk : List Kd) (s : Sv) : List D → Option Res := fun ds => if pkOk pk ds then
    match s (ds ++ List.replicate (n - ds.length) .non) with
    | some (.nx _) => some (.ret .non)
    | some (.rt d) => some (.ret d)
    | some (.ex c _) => some (.exn c)
    | _ => none
  else none
theorem cells_start {mg : Mg} {H : Hp} {F : List Addr} : ∀ {pk : List Kd} {ds : List D} {vs : List V} {fp : List Addr} (j : Nat), pkOk pk ds = true → RepL mg H ds vs fp → (∀ a ∈ fp, a ∈ F) →
    Cells mg ⟨fun a => a ∈ F, fun _ => False⟩ (fun _ => 0) H (pk ++ List.replicate j .dead) (ds ++ List.replicate j .non) (vs.map some ++ List.replicate j none)
  | [], [], _, _, j, _, h, _ => by
    simp only [RepL] at h
    obtain ⟨rfl, _⟩ := h
    induction j with
    | zero => trivial
    | succ j ih => exact ⟨trivial, ih⟩
  | .flat :: pk, d :: ds, _, _, j, e, h, hf => by
    simp only [RepL] at h
    obtain ⟨v, r, f1, f2, rfl, h1, h2, rfl⟩ := h
    simp only [pkOk, Bool.and_eq_true] at e
    refine ⟨⟨v, rfl, ?_⟩, cells_start j e.2 h2 fun a ha => hf a (List.mem_append_right _ ha)⟩
    rw [h1.flat e.1] at h1
    exact h1
  | .lab none [0] false :: pk, d :: ds, _, _, j, e, h, hf => by
    simp only [RepL] at h
    obtain ⟨v, r, f1, f2, rfl, h1, h2, rfl⟩ := h
    simp only [pkOk] at e
    refine ⟨⟨v, f1, rfl, h1, fun a ha => .inr ⟨.inr rfl, List.mem_singleton.mpr rfl, fun _ => hf a (List.mem_append_left _ ha)⟩, .unk fun z => nomatch z⟩, cells_start j e h2 fun a ha => hf a (List.mem_append_right _ ha)⟩
  | [], _ :: _, _, _, _, e, _, _ => by cases e
  | k :: _, [], _, _, _, e, _, _ => by unfold pkOk at e; split at e <;> simp_all
  | .dead :: _, _ :: _, _, _, _, e, _, _ => by cases e
  | .exc _ _ :: _, _ :: _, _, _, _, e, _, _ => by cases e
  | .ob _ _ :: _, _ :: _, _, _, _, e, _, _ => by cases e
  | .lab none [] _ :: _, _ :: _, _, _, _, e, _, _ => by cases e
  | .lab none [0] true :: _, _ :: _, _, _, _, e, _, _ => by cases e
  | .lab none [k+1] _ :: _, _ :: _, _, _, _, e, _, _ => by cases e
  | .lab none (_ :: _ :: _) _ :: _, _ :: _, _, _, _, e, _, _ => by unfold pkOk at e; split at e <;> simp_all
  | .lab (some _) _ _ :: _, _ :: _, _, _, _, e, _, _ => by cases e
theorem pkOk_len : ∀ {pk : List Kd} {ds : List D}, pkOk pk ds = true → ds.length = pk.length
  | [], ds, e => by cases ds <;> simp_all [pkOk]
  | k :: pk, ds, e => by
    unfold pkOk at e
    split at e
    · simp_all
    · rename_i h; cases h; simp only [Bool.and_eq_true] at e; simp [pkOk_len e.2]
    · rename_i h; cases h; simp [pkOk_len e]
    · cases e
theorem loc_start {H : Hp} {fp : List Addr} (h : ∀ a ∈ fp, H a ≠ none) : Loc ⟨fun a => a ∈ fp, fun _ => False⟩ [] (fun _ => 0) H := ⟨fun a z => absurd rfl z, h, fun a z => z.elim⟩
theorem step_ext {H H' : Hp} {g' : Addr → Nat} (s : Step [] (fun _ => 0) H g' H') : Ext H H' := fun a u e => s.kp a (.inl rfl) u e
theorem step_new {P : Fm} {H H' : Hp} {g' : Addr → Nat} (s : Step [] (fun _ => 0) H g' H') (l : Loc P [] g' H') (hf : ∀ a, ¬ P.frz a) {a : Addr} (h : g' a ≠ 0) : New H H' a := by
  refine ⟨?_, ?_⟩
  · cases q : H a with
    | none => rfl
    | some o => exact absurd (s.lk a (by rw [q]; simp) (.inl rfl)) h
  · obtain ⟨o, e, m | m⟩ := l.at_ a h
    · rw [e]; exact m
    · exact absurd m (hf a)
theorem rf_of {mg : Mg} {H H' : Hp} {g' : Addr → Nat} {fp : List Addr} {R : Rm} {d : D} {v : V} (s : Step [] (fun _ => 0) H g' H') (l : Loc ⟨fun a => a ∈ fp, fun _ => False⟩ [] g' H') (r : RV mg ⟨fun a => a ∈ fp, fun _ => False⟩ g' H' R d v) : RF mg H H' fp R d v := by
  cases R with
  | flat => exact r
  | fresh => obtain ⟨f, r1, n, q⟩ := r; exact ⟨f, r1, n, fun a ha => step_new s l (fun _ z => z) (q a ha)⟩
  | out => obtain ⟨f, r1, q⟩ := r; exact ⟨f, r1, fun a ha => (q a ha).imp (step_new s l (fun _ z => z)) id⟩
  | news => obtain ⟨f, r1, q⟩ := r; exact ⟨f, r1, fun a ha => step_new s l (fun _ z => z) (q a ha)⟩
  | outN => obtain ⟨f, r1, n, q⟩ := r; exact ⟨f, r1, n, fun a ha => (q a ha).imp (step_new s l (fun _ z => z)) id⟩
section
variable {P : Program} {w : World} {K : PySem.W.Frag} {mg : Str → Option Value} {base : Heap} {x qual : Str} {params : Arguments} {body : List Stmt} {scope : Scope} {f : Addr} {fd : FuncData}
/-- a def that lets nothing out -/
theorem fn_ok0 {N ps : List Str} {k : Nat} {sc : Sc} {Γ' : List Kd} {s : Sv} (F : FunD K x qual params body scope [] [] f fd) (S : FnScope N ps scope) (pk : List Kd) (hp : pk.length = ps.length) (hN : ps.length ≤ N.length) (hL : sc.LL = [])
    (hb : ∀ (cdv : Value) (A : Around) (outer : List Env) (s0 : Shared) (H : Hp) (E : XK), Room k (A.deeper (envOfC qual scope s0.heap.objs.size f cdv)) →
      SS (cxOf CX0 P w K mg base N qual scope f cdv A outer s0 H E).nox (fun _ _ _ _ => False) sc (pk ++ List.replicate (N.length - pk.length) .dead) body s Γ') :
    FnOk P w K mg base CX0 (k + 1) f fd ps (sp0 ⟨mg, K⟩ (fnSem N.length pk s) ps.length sc.R) := by
  refine F.ok S (fun vs H Q E h => h.1) (fun cdv A outer s0 H vs Q E hr h => ?_)
  obtain ⟨hl, ds, fp, d, r, e, q⟩ := h
  obtain ⟨t, p, kk⟩ := hb cdv A outer s0 H E hr
  refine ⟨t, p.nox, ?_⟩
  unfold fnSem at e
  split at e
  · rename_i hpk
    have hlen := pkOk_len hpk
    have hvd := r.length
    have st : Sta ⟨mg, K⟩ ⟨fun a => a ∈ fp, fun _ => False⟩ sc.LL (pk ++ List.replicate (N.length - pk.length) .dead) (fun _ => 0) (ds ++ List.replicate (N.length - ds.length) .non) (L2.start N vs) H := by
      rw [hL]
      refine ⟨loc_start r.there, ?_⟩
      unfold L2.start
      rw [hvd, hlen]
      exact cells_start _ hpk r fun a ha => ha
    cases o : s (ds ++ List.replicate (N.length - ds.length) .non) with
    | none => rw [o] at e; cases e
    | some o' =>
      rw [o] at e
      refine kk ⟨fun a => a ∈ fp, fun _ => False⟩ (fun _ => 0) _ _ H o' _ st o ?_
      cases o' with
      | nx ρ' =>
        cases e
        intro g' σ' H' s' st'
        rw [hL] at s'
        refine q .non H' (step_ext s') ?_
        have r : Rep ⟨mg, K⟩ H' .non .non [] := rep_non
        cases sc.R with
        | flat => exact r
        | fresh => exact ⟨[], r, by simp, fun a ha => nomatch ha⟩
        | out => exact ⟨[], r, fun a ha => nomatch ha⟩
        | news => exact ⟨[], r, fun a ha => nomatch ha⟩
        | outN => exact ⟨[], r, by simp, fun a ha => nomatch ha⟩
      | ct ρ' => cases e
      | rt d' =>
        cases e
        intro v g' H' s' l' rv
        rw [hL] at s' l'
        exact q v H' (step_ext s') (rf_of s' l' rv)
      | ex c ρ' => cases e
  · cases e
end

/-! ### calls -/
def eCall (f : List D → Option Res) (a : List D → Option (List D)) : Ev := fun ρ => do
  let ds ← a ρ
  match f ds with
  | some (.ret d) => some d
  | _ => none
def Rm.md : Rm → Md → Md
  | .flat, _ => .flat
  | .fresh, _ => .al true .new [] true
  | .news, _ => .al true .unk [] false
  | .outN, .flat => .al true .unk [] true
  | .outN, .al _ _ L _ => .al true .unk L true
  | .out, .flat => .al true .unk [] false
  | .out, .al _ _ L _ => .al true .unk L false
theorem rf_val {mg : Mg} {P : Fm} {g : Addr → Nat} {H H1 H2 : Hp} {m : Md} {fp : List Addr} {R : Rm} {d : D} {v : V} (e : Ext H H1) (e' : Ext H1 H2) (o : Fps P g H H1 m fp) (r : RF mg H1 H2 fp R d v) : Val mg P g H H2 (R.md m) d v := by
  cases R with
  | flat => exact r
  | fresh =>
    obtain ⟨f, r1, n, q⟩ := r
    refine ⟨f, r1, fun a ha => ?_, .of n⟩
    by_cases hv : v = .ref a
    · exact .inl ⟨hv, (q a ha).back e⟩
    · exact .inr ⟨.inl hv, .inl ⟨rfl, (q a ha).back e⟩⟩
  | news =>
    obtain ⟨f, r1, q⟩ := r
    exact ⟨f, r1, fun a ha => .inr ⟨.inr rfl, .inl ⟨rfl, (q a ha).back e⟩⟩, .unk fun z => nomatch z⟩
  | outN =>
    obtain ⟨f, r1, n, q⟩ := r
    cases m with
    | flat =>
      obtain rfl : fp = [] := o
      refine ⟨f, r1, fun a ha => ?_, .unk fun _ => n⟩
      rcases q a ha with y | y
      · exact .inr ⟨.inr rfl, .inl ⟨rfl, y.back e⟩⟩
      · cases y
    | al fr rt L nd =>
      refine ⟨f, r1, fun a ha => ?_, .unk fun _ => n⟩
      rcases q a ha with y | y
      · exact .inr ⟨.inr rfl, .inl ⟨rfl, y.back e⟩⟩
      · rcases o.1 a y with ⟨_, z⟩ | z
        · exact .inr ⟨.inr rfl, .inl ⟨rfl, z.ext e'⟩⟩
        · exact .inr ⟨.inr rfl, .inr z⟩
  | out =>
    obtain ⟨f, r1, q⟩ := r
    cases m with
    | flat =>
      obtain rfl : fp = [] := o
      refine ⟨f, r1, fun a ha => ?_, .unk fun z => nomatch z⟩
      rcases q a ha with y | y
      · exact .inr ⟨.inr rfl, .inl ⟨rfl, y.back e⟩⟩
      · cases y
    | al fr rt L nd =>
      refine ⟨f, r1, fun a ha => ?_, .unk fun z => nomatch z⟩
      rcases q a ha with y | y
      · exact .inr ⟨.inr rfl, .inl ⟨rfl, y.back e⟩⟩
      · rcases o.1 a y with ⟨_, z⟩ | z
        · exact .inr ⟨.inr rfl, .inl ⟨rfl, z.ext e'⟩⟩
        · exact .inr ⟨.inr rfl, .inr z⟩
section
variable {X : Cx} {LL : List Nat} {Γ : List Kd} {pos p : Pos} {k : Nat} {f : Addr} {fd : FuncData} {ps : List Str} {sem : List D → Option Res} {R : Rm} {x : Str}
theorem ex_call {e : Expr} {es : List Expr} {a : List D → Option (List D)} {m : Md} {n : Nat} (F : FnOk X.prog X.w X.K X.mg X.base CX0 k f fd ps (sp0 X.vm sem n R)) (hr : Room k X.A) (hg : Gl X x) (hm : X.mg x = some (.ref f)) (hk : PySem.W.keepIn X.K (.ref f) = true) (hb : Binds X.K fd ps [])
    (ha : EA X LL Γ (e :: es) a m) (hn : (e :: es).length = n := by rfl) (hdb : (x == ("__debug__" : Str)) = false := by decide) (he : starEach (e :: es) X.env = (false, eval e X.env) :: starEach es X.env := by rfl) (hpl : (backTo pos (starEach es X.env)).any (·.1) = false := by rfl) :
    EX X LL Γ (.Call (.Name x p) (e :: es) [] pos) (eCall sem a) (R.md m) := by
  obtain ⟨hl, t, pt, kk⟩ := ha
  refine ⟨_, pe_call F hr hg hm hk hb .nil pass0 pt hdb he hpl, fun P g ρ σ H d Q s e0 q => ?_⟩
  obtain ⟨ds, e1, e2⟩ := bind_some e0
  refine kk P g ρ σ H ds _ s e1 fun vs H1 x1 vl => ?_
  obtain ⟨fp, r, o⟩ := vl
  have hlen : (vs ++ []).length = n := by rw [List.append_nil, r.length, hl ρ ds e1]; exact hn
  refine ⟨hlen, ds, fp, d, by rw [List.append_nil]; exact r, ?_, fun v H2 x2 rf => q v H2 (x1.trans x2) (rf_val x1 x2 o rf)⟩
  split at e2
  · cases e2; assumption
  · cases e2
end
end VV

/-! ## VLoop -/
namespace VV
open PySem PySem.Spec PyProof.Rows L2

theorem PE_imp {X : Cx} {e : Expr} {t t' : TE} (p : PE X e t) (h : ∀ σ H Q, t' σ H Q → t σ H Q) : PE X e t' := ⟨fun pins s σ H Q I q => p.run pins s σ H Q I (h σ H Q q)⟩
theorem PTs_imp {X : Cx} {e : List Expr} {t t' : TT} (p : PTs X e t) (h : ∀ σ H Q, t' σ H Q → t σ H Q) : PTs X e t' := ⟨fun pins s σ H Q I q => p.run pins s σ H Q I (h σ H Q q)⟩
theorem PG_imp {X : Cx} {e : Expr} {t t' : TG} (p : PG X e t) (h : ∀ v σ H Q, t' v σ H Q → t v σ H Q) : PG X e t' := ⟨fun pins s σ H v u Q I r q => p.run pins s σ H v u Q I r (h v σ H Q q)⟩
def canT (mg : Mg) (LL : List Nat) (Γ : List Kd) (sem : Ev) (m : Md) : TE := fun σ H Q => ∃ P g ρ d, Sta mg P LL Γ g ρ σ H ∧ sem ρ = some d ∧ ∀ v H', Ext H H' → Val mg P g H H' m d v → Q v H'
def canB (mg : Mg) (LL : List Nat) (Γ : List Kd) (sem : List D → Option Bool) : TT := fun σ H Q => ∃ P g ρ d, Sta mg P LL Γ g ρ σ H ∧ sem ρ = some d ∧ ∀ H', Ext H H' → Q d H'
def canG (mg : Mg) (Γ : List Kd) (k : Kd) (sem : Tv) (Γ' : List Kd) (S : List Nat) : TG := fun v σ H Q => ∃ P LL g ρ d ρ', Sta mg P LL Γ g ρ σ H ∧ CellOk mg P g H k d (some v) ∧ sem d ρ = some ρ' ∧ ∀ σ', Sta mg P LL Γ' g ρ' σ' H → Wp S σ σ' → Q σ' H
theorem ex_can {X : Cx} {LL : List Nat} {Γ : List Kd} {e : Expr} {sem : Ev} {m : Md} (h : EX X LL Γ e sem m) : PE X e (canT X.vm LL Γ sem m) := by
  obtain ⟨t, p, k⟩ := h
  exact PE_imp p fun σ H Q ⟨P, g, ρ, d, s, e, q⟩ => k P g ρ σ H d Q s e q
/-- a list of tests (of a comprehension) -/
def ETs (X : Cx) (LL : List Nat) (Γ : List Kd) (e : List Expr) (sem : List D → Option Bool) : Prop :=
  ∃ t, PTs X e t ∧ ∀ P g ρ σ H b Q, Sta X.vm P LL Γ g ρ σ H → sem ρ = some b → (∀ H', Ext H H' → Q b H') → t σ H Q
def cYes : List D → Option Bool := fun _ => some true
theorem ets_nil {X : Cx} {LL : List Nat} {Γ : List Kd} : ETs X LL Γ [] cYes := ⟨_, pts_nil, fun P g ρ σ H b Q s e q => by cases e; exact q H Ext.refl⟩
theorem ets_can {X : Cx} {LL : List Nat} {Γ : List Kd} {e : List Expr} {sem : List D → Option Bool} (h : ETs X LL Γ e sem) : PTs X e (canB X.vm LL Γ sem) := by
  obtain ⟨t, p, k⟩ := h
  exact PTs_imp p fun σ H Q ⟨P, g, ρ, d, s, e, q⟩ => k P g ρ σ H d Q s e q
theorem eg_can {X : Cx} {Γ Γ' : List Kd} {e : Expr} {k : Kd} {sem : Tv} {S : List Nat} (h : EG X Γ e k sem Γ' S) : PG X e (canG X.vm Γ k sem Γ' S) := by
  obtain ⟨t, p, kk⟩ := h
  exact PG_imp p fun v σ H Q ⟨P, LL, g, ρ, d, ρ', s, c, e, q⟩ => kk P LL g ρ σ H d v ρ' Q s c e q

/-! ### what is walked -/
def Kept (H H' : Hp) (fp : List Addr) : Prop := (∀ a ∈ fp, ∀ u, H a = some u → H' a = some u) ∧ KpT H H'
theorem Ext.kept {H H' : Hp} (e : Ext H H') (fp : List Addr) : Kept H H' fp := ⟨fun a _ u h => e a u h, e.kpT⟩
theorem Kept.rep {mg : Mg} {H H' : Hp} {F f : List Addr} {d : D} {v : V} (k : Kept H H' F) (h : Rep mg H d v f) (s : ∀ a ∈ f, a ∈ F) : Rep mg H' d v f :=
  h.keep (fun a ha => ⟨fun u _ r => by rcases r with r | ⟨o, r⟩; exact .inl (k.1 a (s a ha) u r); exact .inr ⟨o, k.1 a (s a ha) _ r⟩, fun vs r => k.1 a (s a ha) _ r, fun _ _ _ r => k.1 a (s a ha) _ r⟩) k.2
def Iter (mg : Mg) (P : Fm) (g : Addr → Nat) (H H' : Hp) (J : It) (labs : List Nat) (me : Md) (ds : List D) : Prop :=
  ∃ fpI : List Addr, (∀ a ∈ fpI, New H H' a ∨ Old P g labs a) ∧ ∀ H2, Kept H' H2 fpI →
    (∀ (i : Nat) (d : D), ds[i]? = some d → J.go i H2 ∧ ∀ x H3, J.yld i H2 x H3 → Ext H2 H3 ∧ ∃ f, Rep mg H3 d x f ∧ Fps P g H H' me f ∧ ∀ a ∈ f, a ∈ fpI) ∧ J.stop ds.length H2
def EI (X : Cx) (LL : List Nat) (Γ : List Kd) (tg it : Expr) (sem : List D → Option (List D)) (labs : List Nat) (me : Md) : Prop :=
  ∃ wi, PI X tg it wi ∧ ∀ P g ρ σ H ds R, Sta X.vm P LL Γ g ρ σ H → sem ρ = some ds → (∀ J H', Ext H H' → ds.length ≤ sizeLine → Iter X.vm P g H H' J labs me ds → R J H') → wi σ H R
def Sized (K : PySem.W.Frag) (H : Hp) : Prop := (∀ a xs, SqL K H a xs → xs.length ≤ sizeLine) ∧ ∀ a xs, SqT K H a xs → xs.length ≤ sizeLine
theorem pi_sized {X : Cx} {tg it : Expr} {wi : TI} (h : PI X tg it wi) : PI X tg it (fun σ H R => wi σ H fun J H1 => Sized X.K H1 → R J H1) := by
  refine ⟨fun pins s σ H R I hw => thn (h.run pins s σ H _ I hw) fun v s1 h1 => thn h1 fun u s2 ⟨it', fp, tn, J, H', e, I', T, t0, f, r⟩ => ?_⟩
  refine ⟨it', fp, tn, J, H', e, I', T, t0, f, r ⟨fun a xs q => ?_, fun a xs q => ?_⟩⟩
  · obtain ⟨_, _, _, z⟩ := I'.list q; exact z
  · obtain ⟨_, _, _, z⟩ := I'.tuple q; exact z
def Md.labs : Md → List Nat
  | .flat => []
  | .al _ rt L _ => (match rt with | .old n => n :: L | _ => L)
theorem Val.labs {mg : Mg} {P : Fm} {g : Addr → Nat} {H H' : Hp} {m : Md} {d : D} {v : V} (h : Val mg P g H H' m d v) : ∃ fp, Rep mg H' d v fp ∧ Fps P g H H' m.unroot fp ∧ (∀ a ∈ fp, New H H' a ∨ Old P g m.labs a) ∧
    ∀ f : List Addr, (∃ f1 f2, (∃ a, v = .ref a ∧ fp = a :: (f1 ++ f ++ f2)) ∨ (fp = f1 ++ f ++ f2 ∧ ∀ a, v = .ref a → a ∉ fp)) → Fps P g H H' m.child f := by
  cases m with
  | flat =>
    refine ⟨[], h, rfl, (fun a ha => nomatch ha), fun f ⟨f1, f2, e⟩ => ?_⟩
    rcases e with ⟨a, _, e⟩ | ⟨e, _⟩
    · cases e
    · have := congrArg List.length e
      simp at this
      exact List.eq_nil_of_length_eq_zero (by omega)
  | al fr rt L nd =>
    obtain ⟨fp, r, o⟩ := h
    refine ⟨fp, r, o.unroot, fun a ha => ?_, fun f ⟨f1, f2, e⟩ => ?_⟩
    · rcases o.1 a ha with ⟨_, y⟩ | ⟨_, ⟨_, y⟩ | y⟩
      · cases rt with
        | new => exact .inl y
        | old n => exact .inr ⟨by rw [List.mem_singleton.mp y.1]; exact List.mem_cons_self, y.2⟩
        | unk => exact y.elim
      · exact .inl y
      · refine .inr ⟨?_, y.2⟩
        cases rt with
        | new => exact y.1
        | old n => exact List.mem_cons_of_mem _ y.1
        | unk => exact y.1
    · have hs : ∀ a ∈ f, a ∈ fp := fun a ha => by
        rcases e with ⟨b, _, rfl⟩ | ⟨rfl, _⟩
        · exact List.mem_cons_of_mem _ (List.mem_append_left _ (List.mem_append_right _ ha))
        · exact List.mem_append_left _ (List.mem_append_right _ ha)
      cases nd with
      | true =>
        refine ⟨fun a ha => ?_, fun _ => ?_⟩
        · rcases o.1 a (hs a ha) with ⟨e2, y⟩ | ⟨_, y⟩
          · exfalso
            rcases e with ⟨b, e3, rfl⟩ | ⟨_, z⟩
            · rw [e3] at e2; cases e2
              exact (List.nodup_cons.mp (o.2.1 rfl)).1 (List.mem_append_left _ (List.mem_append_right _ ha))
            · exact z a e2 (hs a ha)
          · exact y
        · have n := o.2.1 rfl
          rcases e with ⟨b, _, rfl⟩ | ⟨rfl, _⟩
          · have n := (List.nodup_cons.mp n).2
            exact (List.nodup_append.mp (List.nodup_append.mp n).1).2.1
          · exact (List.nodup_append.mp (List.nodup_append.mp n).1).2.1
      | false =>
        have q := o.unroot
        show Fps P g H H' (Md.al fr rt L false).unroot f
        cases rt <;> exact ⟨fun a ha => q.1 a (hs a ha), fun h => nomatch h⟩
section
variable {X : Cx} {LL : List Nat} {Γ : List Kd} {pos p : Pos} {tg e : Expr} {se : Ev} {m : Md}
def iLst (s : Ev) : List D → Option (List D) := fun ρ => do match (← s ρ) with
  | .lst l => some l
  | .scr l => some l
  | _ => none
def iTupl (s : Ev) : List D → Option (List D) := fun ρ => do match (← s ρ) with
  | .tup l => some l
  | _ => none
theorem RepL.parts {mg : Mg} {H : Hp} {ds : List D} {vs : List V} {fp : List Addr} (h : RepL mg H ds vs fp) {i : Nat} {d : D} (e : ds[i]? = some d) : ∃ v f, vs[i]? = some v ∧ Rep mg H d v f ∧ ∃ f1 f2, fp = f1 ++ f ++ f2 := by
  obtain ⟨v, f1, f, f2, e1, r, e2⟩ := h.get e
  exact ⟨v, f, e1, r, f1, f2, e2⟩
theorem ei_list (he : EX X LL Γ e se m) : EI X LL Γ tg e (iLst se) m.labs m.child := by
  obtain ⟨t, pt, k⟩ := he
  refine ⟨_, pi_sized (pi_list pt), fun P g ρ σ H ds R s e0 q => ?_⟩
  obtain ⟨d, e1, e0⟩ := bind_some e0
  refine k P g ρ σ H d _ s e1 fun v H1 x1 w => ?_
  obtain ⟨fp, r, o, lb, ch⟩ := w.labs
  cases d with
  | lst l =>
    cases e0
    have r0 := r
    simp only [Rep] at r0
    obtain ⟨a, vs, f, rfl, ha, h2, rfl⟩ := r0
    refine ⟨a, rfl, ⟨vs, SqL.of ha⟩, fun sz => q _ H1 x1 (by rw [← h2.length]; exact sz.1 a vs (SqL.of ha)) ⟨a :: f, lb, fun H2 kp => ⟨fun i d hi => ?_, ?_⟩⟩⟩
    · obtain ⟨u, fi, e3, ri, f1, f2, rfl⟩ := h2.parts hi
      have ha2 : H2 a = some (.lst vs) := kp.1 a List.mem_cons_self _ ha
      refine ⟨⟨vs, u, SqL.of ha2, e3⟩, fun x H3 y => ?_⟩
      obtain ⟨rfl, y⟩ := y
      have := y vs (SqL.of ha2)
      rw [e3] at this; cases this
      have sub : ∀ b ∈ fi, b ∈ a :: (f1 ++ fi ++ f2) := fun b hb => List.mem_cons_of_mem _ (List.mem_append_left _ (List.mem_append_right _ hb))
      exact ⟨Ext.refl, fi, kp.rep ri sub, ch fi ⟨f1, f2, .inl ⟨a, rfl, rfl⟩⟩, sub⟩
    · exact ⟨vs, SqL.of (kp.1 a List.mem_cons_self _ ha), by rw [h2.length]; exact Nat.le_refl _⟩
  | scr l =>
    cases e0
    have r0 := r
    simp only [Rep] at r0
    obtain ⟨a, vs, rfl, ha, h2, rfl⟩ := r0
    refine ⟨a, rfl, ⟨vs, ha.sq⟩, fun sz => q _ H1 x1 (by rw [← h2.length]; exact sz.1 a vs ha.sq) ⟨[], lb, fun H2 kp => ⟨fun i d hi => ?_, ?_⟩⟩⟩
    · obtain ⟨u, fi, e3, ri, f1, f2, e4⟩ := h2.parts hi
      have e5 : fi = [] ∧ f1 = [] ∧ f2 = [] := by
        have := congrArg List.length e4
        simp at this
        exact ⟨List.eq_nil_of_length_eq_zero (by omega), List.eq_nil_of_length_eq_zero (by omega), List.eq_nil_of_length_eq_zero (by omega)⟩
      obtain ⟨rfl, rfl, rfl⟩ := e5
      have ha2 : ScrAt X.K H2 a vs := ha.imp (fun ⟨o, r⟩ => ⟨o, kp.2.2.1 a o vs r⟩) id
      refine ⟨⟨vs, u, ha2.sq, e3⟩, fun x H3 y => ?_⟩
      obtain ⟨rfl, y⟩ := y
      have := y vs ha2.sq
      rw [e3] at this; cases this
      exact ⟨Ext.refl, [], kp.rep ri (fun b hb => nomatch hb), ch [] ⟨[], [], .inr ⟨rfl, fun b eb => nofun⟩⟩, fun b hb => nomatch hb⟩
    · have ha2 : ScrAt X.K H2 a vs := ha.imp (fun ⟨o, r⟩ => ⟨o, kp.2.2.1 a o vs r⟩) id
      exact ⟨vs, ha2.sq, by rw [h2.length]; exact Nat.le_refl _⟩
  | _ => cases e0
/-- lo, lo + 1, .. -/
def rngD (lo : Int) (n : Nat) : List D := (List.range n).map fun i : Nat => .int (lo + i)
theorem rngD_get {lo : Int} {n i : Nat} {d : D} (h : (rngD lo n)[i]? = some d) : i < n ∧ d = .int (lo + i) := by
  unfold rngD at h
  rw [List.getElem?_map] at h
  by_cases hi : i < n
  · rw [List.getElem?_range hi] at h
    cases h
    exact ⟨hi, rfl⟩
  · rw [List.getElem?_eq_none (by simpa using hi)] at h
    cases h
theorem iter_rngD {mg : Mg} {P : Fm} {g : Addr → Nat} {H H' : Hp} {lo : Int} {n : Nat} : Iter mg P g H H' (Itr lo n) [] .flat (rngD lo n) := by
  refine ⟨[], (fun a ha => nomatch ha), fun H2 kp => ⟨fun i d hi => ?_, ?_⟩⟩
  · obtain ⟨h1, rfl⟩ := rngD_get hi
    refine ⟨h1, fun x H3 y => ?_⟩
    obtain ⟨rfl, rfl⟩ := y
    exact ⟨Ext.refl, [], rep_int, rfl, fun a ha => nomatch ha⟩
  · show n ≤ (rngD lo n).length
    unfold rngD
    simp
def iRng (a : List D → Option (List D)) : List D → Option (List D) := fun ρ => do match (← a ρ) with
  | [.int j] => if j ≤ 10000000 ∧ -10000000 ≤ j then some (rngD 0 j.toNat) else none
  | [.int i, .int j] => if j ≤ 10000000 ∧ -10000000 ≤ i ∧ i ≤ 10000000 ∧ -10000000 ≤ j ∧ j - i ≤ 10000000 then some (rngD i (j - i).toNat) else none
  | _ => none
theorem ei_range1 {a : Expr} {sa : List D → Option (List D)} (hg : Gl X "range") (hm : X.mg "range" = none) (ha : EA X LL Γ [a] sa m) (hs : starEach [a] X.env = [(false, eval a X.env)] := by rfl) : EI X LL Γ tg (.Call (.Name "range" p) [a] [] pos) (iRng sa) [] .flat := by
  obtain ⟨hl, t, pt, k⟩ := ha
  refine ⟨_, pi_range1 hg hm pt hs, fun P g ρ σ H ds R s e0 q => ?_⟩
  obtain ⟨d, e1, e0⟩ := bind_some e0
  have hlen := hl ρ d e1
  refine k P g ρ σ H d _ s e1 fun vs H1 x1 w => ?_
  obtain ⟨fp, r⟩ := w.rep
  split at e0
  · split at e0
    · cases e0
      obtain ⟨v, rfl, h⟩ := repL1 r
      obtain rfl := rInt h
      rename_i j hj
      refine ⟨j, rfl, by omega, by omega, ?_⟩
      exact q _ H1 x1 (by unfold rngD; simp; rw [sizeLine_eq]; omega) iter_rngD
    · cases e0
  · simp at hlen
  · cases e0
end
end VV

/-! ## VLoop2 -/
namespace VV
open PySem PySem.Spec PyProof.Rows L2

/-! ### for -/
def forL (t : Tv) (b : Sv) : List D → List D → Option Out
  | [], ρ => some (.nx ρ)
  | x :: xs, ρ => match t x ρ with
    | none => none
    | some ρ1 => match b ρ1 with
      | some (.nx ρ2) => forL t b xs ρ2
      | some (.ct ρ2) => forL t b xs ρ2
      | o => o
def sFor (it : List D → Option (List D)) (t : Tv) (b : Sv) : Sv := fun ρ => do forL t b (← it ρ) ρ
/-- the kind of a loop's name -/
def Md.kindI (n : Nat) : Md → Kd
  | .flat => .flat
  | .al fr _ L nd => .lab none (if fr then n :: L else L) nd
theorem fps_cell {mg : Mg} {P : Fm} {LL : List Nat} {g g' : Addr → Nat} {H H1 H' : Hp} {me : Md} {f : List Addr} {d : D} {v : V} {n : Nat} (l : Loc P LL g H) (r : Rep mg H' d v f) (o : Fps P g H H1 me f) (hn : n ≠ 0)
    (hg : ∀ a ∈ f, g' a = relab g H H1 .non n n a) : CellOk mg P g' H' (me.kindI n) d (some v) := by
  cases me with
  | flat =>
    obtain rfl : f = [] := o
    exact ⟨v, rfl, r⟩
  | al fr rt L nd =>
    refine ⟨v, f, rfl, r, fun a ha => .inr ⟨.inr rfl, ?_⟩, .unk o.2⟩
    unfold Old
    rw [hg a ha]
    rcases o.1 a ha with ⟨hfr, y⟩ | y
    · rw [relab_new y]
      subst hfr
      refine ⟨?_, fun z => ?_⟩
      · show _ ∈ n :: L
        split <;> exact List.mem_cons_self
      · split at z <;> exact absurd z hn
    · have := Old.relab (H' := H1) (v := .non) (n := n) (m := n) y l
      refine ⟨?_, this.2⟩
      cases fr with
      | false => exact this.1
      | true => exact List.mem_cons_of_mem _ this.1
theorem Step.sub {LL LL' : List Nat} {g g' : Addr → Nat} {H H' : Hp} (s : Step LL' g H g' H') (h : ∀ n ∈ LL, n ∈ LL') : Step LL g H g' H' :=
  ⟨fun a x u e => s.kp a (x.imp id (h _)) u e, fun a e x => s.lk a e (x.imp id (h _)), s.th⟩
theorem Loc.up {P : Fm} {LL LL' : List Nat} {g : Addr → Nat} {H : Hp} (l : Loc P LL g H) (h : ∀ n ∈ LL, n ∈ LL') : Loc P LL' g H := ⟨l.at_, l.out, fun a x => ⟨(l.fz a x).1, (l.fz a x).2.imp id (h _)⟩⟩
/-- back to fewer locks: what was locked for good before is still so -/
theorem Loc.down {P : Fm} {LL LL' : List Nat} {g g' : Addr → Nat} {H H' : Hp} (l' : Loc P LL' g' H') (l : Loc P LL g H) (s : Step LL g H g' H') : Loc P LL g' H' :=
  ⟨l'.at_, l'.out, fun a x => ⟨(l'.fz a x).1, by rw [s.lk a (l.fzn x) (l.fz a x).2]; exact (l.fz a x).2⟩⟩
theorem Step.tups {P : Fm} {LL : List Nat} {g g' : Addr → Nat} {H H' : Hp} (s : Step LL g H g' H') (l : Loc P LL g H) {u : HO} (hu : ¬ Mut (some u)) (a : Addr) (e : H a = some u) : H' a = some u := by
  have key : VV.lk LL (g a) := by
    by_cases h : g a = 0
    · exact .inl h
    · obtain ⟨o, e', m | m⟩ := l.at_ a h
      · rw [e] at e'; cases e'; exact absurd m hu
      · exact (l.fz a m).2
  exact s.kp a key _ e
theorem Step.kpT {P : Fm} {LL : List Nat} {g g' : Addr → Nat} {H H' : Hp} (s : Step LL g H g' H') (l : Loc P LL g H) : KpT H H' := by
  refine ⟨fun a xs r => ?_, fun a o vs r => s.tups l (show ¬ Mut (some (HO.frz o (.lst vs))) from fun z => z) a r, fun a o vs r => s.tups l (show ¬ Mut (some (HO.frz o (.tup vs))) from fun z => z) a r⟩
  exact s.tups l (show ¬ Mut (some (HO.tup xs)) from fun z => z) a r
theorem wantS_sub {X : Cx} {W : L2.WX} {sc sc' : Sc} {P : Fm} {Γ' : List Kd} {g g0 : Addr → Nat} {H H0 : Hp} {D D' : Ends} {o : Out} (hL : ∀ n ∈ sc.LL, n ∈ sc'.LL) (hR : sc'.R = sc.R) (hx : sc'.Γx = sc.Γx) (hD : D'.rt = D.rt) (l : Loc P sc.LL g0 H0) (s0 : Step sc.LL g0 H0 g H)
    (w : WantS X W sc P Γ' g0 H0 D o) (ho : (∃ d, o = .rt d) ∨ ∃ c ρ, o = .ex c ρ) (Γ1 : List Kd) : WantS X W sc' P Γ1 g H D' o := by
  rcases ho with ⟨d, rfl⟩ | ⟨c, ρ, rfl⟩
  · intro v g' H' s l' r
    rw [hD]
    have st := s0.trans (s.sub hL)
    exact w v g' H' st (l'.down l st) (by rw [← hR]; exact r)
  · intro C g' σ' H' m s st
    have stt := s0.trans (s.sub hL)
    exact w C g' σ' H' m stt ⟨st.loc.down l stt, by rw [← hx]; exact st.cells⟩
section
variable {X : Cx} {W : L2.WX} {sc : Sc} {Γ Γ1 : List Kd} {pos : Pos}
theorem for_run {t : Tv} {sb : Sv} {labs : List Nat} {me : Md} {S : List Nat} {n : Nat} {tgt : TG} {tb : TS} {wi : TI}
    (kg : ∀ P LL g ρ σ H d v ρ' (Q : L2.St → Hp → Prop), Sta X.vm P LL Γ g ρ σ H → CellOk X.vm P g H (me.kindI n) d (some v) → t d ρ = some ρ' → (∀ σ', Sta X.vm P LL Γ1 g ρ' σ' H → Wp S σ σ' → Q σ' H) → tgt v σ H Q)
    (kb : ∀ P g ρ σ H o D, Sta X.vm P (n :: (labs ++ sc.LL)) Γ1 g ρ σ H → sb ρ = some o → WantS X W { sc with LL := n :: (labs ++ sc.LL), Γc := Γ } P Γ g H D o → tb D σ H)
    (hn : n ≠ 0) {P : Fm} {g : Addr → Nat} {ρ : List D} {σ : L2.St} {H : Hp} {ds : List D} {o : Out} {De : Ends} (s : Sta X.vm P sc.LL Γ g ρ σ H)
    (ki : ∀ R : It → Hp → Prop, (∀ J H', Ext H H' → Iter X.vm P g H H' J labs me ds → R J H') → wi σ H R) (e : forL t sb ds ρ = some o) (w : WantS X W sc P Γ g H De o) : tFor wi tgt tb De σ H := by
  refine ki _ fun J H1 x1 it => ?_
  obtain ⟨fpI, lb, walk⟩ := it
  -- what is new is labelled n, and locked
  have s1 : Sta X.vm P sc.LL Γ (relab g H H1 .non n n) ρ σ H1 := s.relab x1
  have st1 : Step sc.LL g H (relab g H H1 .non n n) H1 := .relab x1
  have subL : ∀ k ∈ sc.LL, k ∈ n :: (labs ++ sc.LL) := fun k hk => List.mem_cons_of_mem _ (List.mem_append_right _ hk)
  have lkI : ∀ a ∈ fpI, lk (n :: (labs ++ sc.LL)) (relab g H H1 .non n n a) := fun a ha => by
    rcases lb a ha with y | y
    · rw [relab_new y]; right; split <;> exact List.mem_cons_self
    · rw [relab_old (y.there s.loc)]; right
      exact List.mem_cons_of_mem _ (List.mem_append_left _ y.1)
  generalize hg1 : relab g H H1 .non n n = g1 at s1 st1 lkI
  -- the turn's state: what is left of the items
  refine ⟨fun i m σ' H' => m = ds.length - i ∧ i ≤ ds.length ∧ ∃ ρ' g', forL t sb (ds.drop i) ρ' = some o ∧ Sta X.vm P (n :: (labs ++ sc.LL)) Γ g' ρ' σ' H' ∧ Step (n :: (labs ++ sc.LL)) g1 H1 g' H',
    ⟨ds.length, rfl, Nat.zero_le _, ρ, g1, by rw [List.drop_zero]; exact e, ⟨s1.loc.up subL, s1.cells⟩, .refl⟩, ?_⟩
  rintro i m σ2 H2 ⟨rfl, hil, ρ2, g2, e2, s2, st2⟩
  have kept : Kept H1 H2 fpI := ⟨fun a ha u r => st2.kp a (lkI a ha) u r, st2.kpT (s1.loc.up subL)⟩
  obtain ⟨wk, wstop⟩ := walk H2 kept
  have back : ∀ {ρ3 : List D} {σ3 : L2.St} {g3 : Addr → Nat} {H3 : Hp}, Step (n :: (labs ++ sc.LL)) g1 H1 g3 H3 → Sta X.vm P (n :: (labs ++ sc.LL)) Γ g3 ρ3 σ3 H3 → Step sc.LL g H g3 H3 ∧ Sta X.vm P sc.LL Γ g3 ρ3 σ3 H3 := fun st3 s3 =>
    have h := st1.trans (st3.sub subL)
    ⟨h, s3.loc.down s.loc h, s3.cells⟩
  by_cases hi' : i < ds.length
  · refine .inr ?_
    obtain ⟨go, yl⟩ := wk i ds[i] (List.getElem?_eq_getElem hi')
    rw [List.drop_eq_getElem_cons hi'] at e2
    unfold forL at e2
    cases et : t ds[i] ρ2 with
    | none => rw [et] at e2; cases e2
    | some ρ3 =>
      rw [et] at e2
      dsimp only at e2
      refine ⟨go, fun σ' H' => ∃ m', m' < ds.length - i ∧ (m' = ds.length - (i + 1) ∧ i + 1 ≤ ds.length ∧ ∃ ρ' g', forL t sb (ds.drop (i + 1)) ρ' = some o ∧ Sta X.vm P (n :: (labs ++ sc.LL)) Γ g' ρ' σ' H' ∧ Step (n :: (labs ++ sc.LL)) g1 H1 g' H'), fun σ' H' h => h, fun x H3 y => ?_⟩
      obtain ⟨x3, f, r, of, sub⟩ := yl x H3 y
      have s3 := s2.ext x3
      have cell : CellOk X.vm P g2 H3 (me.kindI n) ds[i] (some x) := fps_cell s.loc r of hn fun a ha => by
        rw [hg1]
        obtain ⟨u, hu⟩ : ∃ u, H1 a = some u := by
          rcases lb a (sub a ha) with y | y
          · cases q : H1 a with
            | none => have := y.2; rw [q] at this; exact this.elim
            | some u => exact ⟨u, rfl⟩
          · cases q : H1 a with
            | none => exact absurd (x1.nope q) (y.there s.loc)
            | some u => exact ⟨u, rfl⟩
        exact st2.lk a (by rw [hu]; simp) (lkI a (sub a ha))
      refine kg P _ g2 ρ2 σ2 H3 ds[i] x ρ3 _ s3 cell et fun σ4 s4 _ => ?_
      have st3 : Step (n :: (labs ++ sc.LL)) g1 H1 g2 H3 := st2.trans (.ext x3)
      have again : ∀ {ρ5 : List D} {σ5 : L2.St} {g5 : Addr → Nat} {H5 : Hp}, forL t sb (ds.drop (i + 1)) ρ5 = some o → Step (n :: (labs ++ sc.LL)) g2 H3 g5 H5 → Sta X.vm P (n :: (labs ++ sc.LL)) Γ g5 ρ5 σ5 H5 →
          ∃ m', m' < ds.length - i ∧ (m' = ds.length - (i + 1) ∧ i + 1 ≤ ds.length ∧ ∃ ρ' g', forL t sb (ds.drop (i + 1)) ρ' = some o ∧ Sta X.vm P (n :: (labs ++ sc.LL)) Γ g' ρ' σ5 H5 ∧ Step (n :: (labs ++ sc.LL)) g1 H1 g' H5) := fun {ρ5 σ5 g5 H5} e5 st5 s5 =>
        ⟨_, by omega, rfl, hi', ρ5, g5, e5, s5, st3.trans st5⟩
      cases eb : sb ρ3 with
      | none => rw [eb] at e2; cases e2
      | some o3 =>
        rw [eb] at e2
        refine kb P g2 ρ3 σ4 H3 o3 _ s4 eb ?_
        cases o3 with
        | nx ρ5 => exact fun g5 σ5 H5 st5 s5 => again e2 st5 s5
        | ct ρ5 => exact fun g5 σ5 H5 st5 s5 => again e2 st5 s5
        | rt d =>
          cases e2
          exact wantS_sub (D := De) (sc := sc) (sc' := { sc with LL := n :: (labs ++ sc.LL), Γc := Γ }) subL rfl rfl rfl s.loc (st1.trans (st3.sub subL)) w (.inl ⟨d, rfl⟩) Γ
        | ex c ρ5 =>
          cases e2
          exact wantS_sub (D := De) (sc := sc) (sc' := { sc with LL := n :: (labs ++ sc.LL), Γc := Γ }) subL rfl rfl rfl s.loc (st1.trans (st3.sub subL)) w (.inr ⟨c, ρ5, rfl⟩) Γ
  · have : i = ds.length := by omega
    subst this
    refine .inl ⟨wstop, ?_⟩
    rw [List.drop_length] at e2
    cases e2
    obtain ⟨h1, h2⟩ := back st2 s2
    exact w g2 σ2 H2 h1 h2
theorem sx_for {iter tg : Expr} {body : List Stmt} {si : List D → Option (List D)} {t : Tv} {sb : Sv} {labs : List Nat} {me : Md} {S : List Nat} (n : Nat) (hc : X.calm = true) (hp : PassesOwn (model X.prog X.w) X.A X.env X.xe)
    (hi : EI X sc.LL Γ tg iter si labs me) (hg : EG X Γ tg (me.kindI n) t Γ1 S) (hb : SS X W { sc with LL := n :: (labs ++ sc.LL), Γc := Γ } Γ1 body sb Γ)
    (hs : ∀ x, foldedSetIterable iter X.env x = pure x := by intro _; rfl) (hn : n ≠ 0 := by decide) : SX X W sc Γ (.For tg iter body [] pos) (sFor si t sb) Γ := by
  obtain ⟨wi, pi, ki⟩ := hi
  obtain ⟨tgt, pg, kg⟩ := hg
  obtain ⟨tb, pb, kb⟩ := hb
  refine ⟨_, ps_for hp hc pi pg pb hs, fun P g ρ σ H o De s e w => ?_⟩
  obtain ⟨ds, e1, e⟩ := bind_some e
  exact for_run kg kb hn s (fun R q => ki P g ρ σ H ds R s e1 fun J H' x _ it => q J H' x it) e w
end
end VV

/-! ## VComp -/
namespace VV
open PySem PySem.Spec PyProof.Rows L2

/-! ### while -/
section
variable {X : Cx} {W : L2.WX} {sc : Sc} {Γ Γ1 : List Kd} {pos : Pos}
end

/-! ### list comprehensions -/
def lcL (t : Tv) (c : List D → Option Bool) (e : Ev) (ρ : List D) : List D → Option (List D)
  | [] => some []
  | x :: xs => do
    let ρ1 ← t x ρ
    let b ← c ρ1
    if b then do
      let y ← e ρ1
      let r ← lcL t c e ρ xs
      some (y :: r)
    else lcL t c e ρ xs
def eLc (it : List D → Option (List D)) (t : Tv) (c : List D → Option Bool) (e : Ev) : Ev := fun ρ => do
  let xs ← it ρ
  let ys ← lcL t c e ρ xs
  some (.lst ys)
def wipeK (Γ : List Kd) : List Nat → List Kd
  | [] => Γ
  | v :: vs => (wipeK Γ vs).set v .dead
theorem Cells.kill {mg : Mg} {P : Fm} {g : Addr → Nat} {H : Hp} {ov : Option V} : ∀ {Γ : List Kd} {ρ : List D} {σ : L2.St} (i : Nat), Cells mg P g H Γ ρ σ → Cells mg P g H (Γ.set i .dead) ρ (σ.set i ov)
  | [], [], [], _, _ => trivial
  | _ :: _, _ :: _, _ :: _, 0, h => ⟨trivial, h.2⟩
  | _ :: _, _ :: _, _ :: _, i + 1, h => ⟨h.1, Cells.kill i h.2⟩
  | [], _ :: _, _, _, h => h.elim
  | [], [], _ :: _, _, h => h.elim
  | _ :: _, [], _, _, h => h.elim
  | _ :: _, _ :: _, [], _, h => h.elim
theorem Cells.wipe {mg : Mg} {P : Fm} {g : Addr → Nat} {H : Hp} {Γ : List Kd} {ρ : List D} {σ : L2.St} (h : Cells mg P g H Γ ρ σ) : ∀ vs : List Nat, Cells mg P g H (wipeK Γ vs) ρ (wipe σ vs)
  | [] => h
  | v :: vs => Cells.kill v (Cells.wipe h vs)
def Md.lc : Md → Md
  | .flat => .al false .new [] true
  | .al _ .new [] nd => .al true .new [] nd
  | .al _ rt L _ => .al true .new (match rt with | .old n => n :: L | _ => L) false
theorem lcL_cons {t : Tv} {c : List D → Option Bool} {e : Ev} {ρ : List D} {x : D} {xs ys : List D} (h : lcL t c e ρ (x :: xs) = some ys) : ∃ ρ1 b, t x ρ = some ρ1 ∧ c ρ1 = some b ∧ ((b = true ∧ ∃ y r, e ρ1 = some y ∧ lcL t c e ρ xs = some r ∧ ys = y :: r) ∨ (b = false ∧ lcL t c e ρ xs = some ys)) := by
  unfold lcL at h
  obtain ⟨ρ1, h1, h⟩ := bind_some h
  obtain ⟨b, h2, h⟩ := bind_some h
  refine ⟨ρ1, b, h1, h2, ?_⟩
  cases b with
  | true =>
    simp only [if_true] at h
    obtain ⟨y, h3, h⟩ := bind_some h
    obtain ⟨r, h4, h⟩ := bind_some h
    cases h
    exact .inl ⟨rfl, y, r, h3, h4, rfl⟩
  | false => exact .inr ⟨rfl, by simpa using h⟩
/-- the nodes of what is made so far, seen from H -/
def AccOk (P : Fm) (g : Addr → Nat) (H H' : Hp) : Md → List Addr → Prop
  | .flat, f => f = []
  | .al _ .new [] nd, f => (∀ a ∈ f, New H H' a) ∧ (nd = true → f.Nodup)
  | .al _ rt L _, f => ∀ a ∈ f, New H H' a ∨ Old P g (match rt with | .old n => n :: L | _ => L) a
theorem AccOk.ext {P : Fm} {g : Addr → Nat} {H H1 H2 : Hp} {m : Md} {f : List Addr} (h : AccOk P g H H1 m f) (e : ∀ a ∈ f, ∀ u, H1 a = some u → H2 a = some u) : AccOk P g H H2 m f := by
  have ne : ∀ a ∈ f, New H H1 a → New H H2 a := fun a ha n => ⟨n.1, mut_of n.2 (e a ha)⟩
  cases m with
  | flat => exact h
  | al fr rt L nd =>
    cases rt with
    | new =>
      cases L with
      | nil => exact ⟨fun a ha => ne a ha (h.1 a ha), h.2⟩
      | cons x r => exact fun a ha => (h a ha).imp (ne a ha) id
    | old n => exact fun a ha => (h a ha).imp (ne a ha) id
    | unk => exact fun a ha => (h a ha).imp (ne a ha) id
theorem AccOk.nil {P : Fm} {g : Addr → Nat} {H H1 : Hp} {m : Md} : AccOk P g H H1 m [] := by
  cases m with
  | flat => rfl
  | al fr rt L nd =>
    cases rt with
    | new =>
      cases L with
      | nil => exact ⟨(fun a ha => nomatch ha), fun _ => List.nodup_nil⟩
      | cons x r => exact fun a ha => nomatch ha
    | old n => exact fun a ha => nomatch ha
    | unk => exact fun a ha => nomatch ha
/-- one more: its value was told from H1, where all of f stood -/
theorem AccOk.add {mg : Mg} {P : Fm} {LL : List Nat} {g g' : Addr → Nat} {H H1 H2 : Hp} {m : Md} {f : List Addr} {d : D} {v : V} (h : AccOk P g H H2 m f) (th : ∀ a ∈ f, H1 a ≠ none) (e : Ext H H1) (e2 : Ext H1 H2) (w : Val mg P g' H1 H2 m d v)
    (l : Loc P LL g H) (hg : ∀ a, H a ≠ none → g' a = g a) (hn : ∀ a L, H a = none → Old P g' L a → New H H2 a) : ∃ f', Rep mg H2 d v f' ∧ AccOk P g H H2 m (f ++ f') ∧ ∀ a ∈ f', New H1 H2 a ∨ ∃ L, Old P g' L a := by
  have old : ∀ {L : List Nat} {a : Addr}, Old P g' L a → New H H2 a ∨ Old P g L a := fun {L a} o => by
    by_cases h0 : H a = none
    · exact .inl (hn a L h0 o)
    · right
      unfold Old at o ⊢
      rw [hg a h0] at o
      exact o
  cases m with
  | flat =>
    obtain rfl : f = [] := h
    exact ⟨[], w, rfl, (fun a ha => nomatch ha)⟩
  | al fr rt L nd =>
    obtain ⟨f', r, o, z⟩ := w
    have last : ∀ a ∈ f', New H1 H2 a ∨ ∃ L, Old P g' L a := fun a ha => by
      rcases o a ha with ⟨_, y⟩ | ⟨_, ⟨_, y⟩ | y⟩
      · cases rt with
        | new => exact .inl y
        | old n => exact .inr ⟨_, y⟩
        | unk => exact y.elim
      · exact .inl y
      · exact .inr ⟨_, y⟩
    suffices hh : AccOk P g H H2 (.al fr rt L nd) (f ++ f') from ⟨f', r, hh, last⟩
    cases rt with
    | new =>
      cases L with
      | nil =>
        have nw : ∀ a ∈ f', New H1 H2 a := fun a ha => by
          rcases o a ha with ⟨_, y⟩ | ⟨_, ⟨_, y⟩ | y⟩
          · exact y
          · exact y
          · cases y.1
        refine ⟨fun a ha => ?_, fun hnd => List.nodup_append.mpr ⟨h.2 hnd, z.1 hnd, ?_⟩⟩
        · rcases List.mem_append.mp ha with ha | ha
          · exact h.1 a ha
          · exact (nw a ha).back e
        · intro a ha b hb hab
          subst hab
          exact th a ha (nw a hb).1
      | cons x rL =>
        intro a ha
        rcases List.mem_append.mp ha with ha | ha
        · exact h a ha
        · rcases o a ha with ⟨_, y⟩ | ⟨_, ⟨_, y⟩ | y⟩
          · exact .inl (New.back y e)
          · exact .inl (y.back e)
          · exact old y
    | old n =>
      intro a ha
      rcases List.mem_append.mp ha with ha | ha
      · exact h a ha
      · rcases o a ha with ⟨_, y⟩ | ⟨_, ⟨_, y⟩ | y⟩
        · refine old ⟨?_, y.2⟩
          rw [List.mem_singleton.mp y.1]
          exact List.mem_cons_self
        · exact .inl (y.back e)
        · exact old ⟨List.mem_cons_of_mem _ y.1, y.2⟩
    | unk =>
      intro a ha
      rcases List.mem_append.mp ha with ha | ha
      · exact h a ha
      · rcases o a ha with ⟨_, y⟩ | ⟨_, ⟨_, y⟩ | y⟩
        · exact y.elim
        · exact .inl (y.back e)
        · exact old y
theorem AccOk.val {mg : Mg} {P : Fm} {g : Addr → Nat} {H H2 : Hp} {m : Md} {f : List Addr} {ds : List D} {vs : List V} {p : Addr} (h : AccOk P g H H2 m f) (r : RepL mg H2 ds vs f) (hp : H2 p = some (.lst vs)) (hn : H p = none) (hf : p ∉ f) : Val mg P g H H2 m.lc (.lst ds) (.ref p) := by
  have nw : New H H2 p := ⟨hn, by rw [hp]; trivial⟩
  have rr : Rep mg H2 (.lst ds) (.ref p) (p :: f) := by
    simp only [Rep]
    exact ⟨p, vs, f, rfl, hp, r, rfl⟩
  have gen : ∀ (L : List Nat), (∀ a ∈ f, New H H2 a ∨ Old P g L a) → ∀ nd : Bool, (nd = true → f.Nodup) → Val mg P g H H2 (.al true .new L nd) (.lst ds) (.ref p) := fun L hh nd hnd => by
    refine ⟨p :: f, rr, fun a ha => ?_, .cons hf hnd⟩
    rcases List.mem_cons.mp ha with rfl | ha
    · exact .inl ⟨rfl, nw⟩
    · exact .inr ⟨.inl fun e => by cases e; exact hf ha, (hh a ha).imp (fun y => ⟨rfl, y⟩) id⟩
  cases m with
  | flat =>
    obtain rfl : f = [] := h
    refine ⟨[p], rr, fun a ha => ?_, .of (by simp)⟩
    rw [List.mem_singleton.mp ha]
    exact .inl ⟨rfl, nw⟩
  | al fr rt L nd =>
    cases rt with
    | new =>
      cases L with
      | nil => exact gen [] (fun a ha => .inl (h.1 a ha)) nd h.2
      | cons x r => exact gen _ h false fun z => nomatch z
    | old n => exact gen _ h false fun z => nomatch z
    | unk => exact gen _ h false fun z => nomatch z

theorem RepL.updL {mg : Mg} {H : Hp} {a : Addr} {o : HO} {us : List V} {ds : List D} {vs : List V} {f : List Addr} (h : RepL mg H ds vs f) (hn : a ∉ f) (ha : H a = some (.lst us)) : RepL mg (upd H a o) ds vs f := by
  refine h.keep (fun b hb => ?_) ⟨fun b xs r => ?_, fun b o vs r => ?_, fun b o vs r => ?_⟩
  · have : b ≠ a := fun z => hn (by rw [← z]; exact hb)
    exact ⟨fun u _ r => by unfold Rd at r ⊢; rw [upd_ne this]; exact r, fun vs r => by rw [upd_ne this]; exact r, fun _ _ _ r => by rw [upd_ne this]; exact r⟩
  · have : b ≠ a := fun z => by
      rw [z, ha] at r
      cases r
    rw [upd_ne this]
    exact r
  · have : b ≠ a := fun z => by rw [z, ha] at r; cases r
    rw [upd_ne this]
    exact r
  · have : b ≠ a := fun z => by rw [z, ha] at r; cases r
    rw [upd_ne this]
    exact r
section
variable {X : Cx} {W : L2.WX} {LL : List Nat} {Γ Γ1 : List Kd} {pos : Pos}
/-- the reading of a comprehension -/
theorem lc_read {mg : Mg} {wi : TI} {own : List (Str × Nat)} {si : List D → Option (List D)} {t : Tv} {c : List D → Option Bool} {se : Ev} {labs : List Nat} {me m2 : Md} {S : List Nat} {n : Nat} (hn : n ≠ 0) (hS : ∀ i ∈ S, i ∈ own.map (·.2))
    {P : Fm} {g : Addr → Nat} {ρ : List D} {σ : L2.St} {H : Hp} {d : D} {Q : VK} (s : Sta mg P LL Γ g ρ σ H) (e : eLc si t c se ρ = some d)
    (ki : ∀ ds (R : It → Hp → Prop), si ρ = some ds → (∀ J H', Ext H H' → ds.length ≤ sizeLine → Iter mg P g H H' J labs me ds → R J H') → wi σ H R)
    (q : ∀ v H', Ext H H' → Val mg P g H H' m2.lc d v → Q v H') :
    tLc wi (canG mg (wipeK Γ (own.map (·.2))) (me.kindI n) t Γ1 S) (canB mg LL Γ1 c) (canT mg LL Γ1 se m2) (own.map (·.2)) σ H Q := by
  obtain ⟨ds, e1, e⟩ := bind_some e
  obtain ⟨ys, e2, e⟩ := bind_some e
  cases e
  refine ki ds _ e1 fun J H1 x1 hz it => ?_
  obtain ⟨fpI, lb, walk⟩ := it
  intro Dp hD
  have s1 : Sta mg P LL Γ (relab g H H1 .non n n) ρ σ H1 := s.relab x1
  have hg1 : ∀ a, H a ≠ none → relab g H H1 .non n n a = g a := fun a h => relab_old h
  generalize eg1 : relab g H H1 .non n n = g1 at s1 hg1
  refine ⟨fun i m Hc => m = ds.length - i ∧ i ≤ ds.length ∧ ∃ done rest vs f, ys = done ++ rest ∧ lcL t c se ρ (ds.drop i) = some rest ∧ Hc Dp = some (.lst vs) ∧ vs.length ≤ i ∧ RepL mg Hc done vs f ∧ Dp ∉ f ∧ AccOk P g H Hc m2 f ∧ Ext H1 Hc,
    ⟨ds.length, rfl, Nat.zero_le _, [], ys, [], [], rfl, e2, upd_same, Nat.le_refl _, by simp [RepL], by simp, .nil, Ext.put hD⟩, ?_⟩
  rintro i m Hc ⟨rfl, hil, done, rest, vs, f, rfl, e3, hDc, hlen, rl, nD, acc, xc⟩
  obtain ⟨wk, wstop⟩ := walk Hc (xc.kept _)
  by_cases hi' : i < ds.length
  · refine .inr ?_
    obtain ⟨go, yl⟩ := wk i ds[i] (List.getElem?_eq_getElem hi')
    rw [List.drop_eq_getElem_cons hi'] at e3
    obtain ⟨ρ1, b, et, ec, hb⟩ := lcL_cons e3
    refine ⟨go, fun H' => ∃ m', m' < ds.length - i ∧ (m' = ds.length - (i + 1) ∧ i + 1 ≤ ds.length ∧ ∃ done' rest' vs f, done ++ rest = done' ++ rest' ∧ lcL t c se ρ (ds.drop (i + 1)) = some rest' ∧ H' Dp = some (.lst vs) ∧ vs.length ≤ i + 1 ∧ RepL mg H' done' vs f ∧ Dp ∉ f ∧ AccOk P g H H' m2 f ∧ Ext H1 H'), fun H' h => h, fun x H3 y => ?_⟩
    obtain ⟨x3, fx, r, of, sub⟩ := yl x H3 y
    have x13 : Ext H1 H3 := xc.trans x3
    have s3 : Sta mg P LL (wipeK Γ (own.map (·.2))) g1 ρ (wipe σ (own.map (·.2))) H3 := ⟨s1.loc.ext x13, Cells.wipe (s1.ext x13).cells _⟩
    refine ⟨P, LL, g1, ρ, ds[i], ρ1, s3, fps_cell s.loc r of hn (fun a ha => by rw [eg1]), et, fun σ4 s4 w4 => ⟨?_, ?_⟩⟩
    · rw [w4 _ hS]
      -- wiping twice
      apply List.ext_getElem?
      intro j
      rw [wipe_get, wipe_get]
      split
      · cases σ[j]? <;> rfl
      · rfl
    refine ⟨P, g1, ρ1, b, s4, ec, fun H4 x4 => ?_⟩
    have x34 : Ext Hc H4 := x3.trans x4
    rcases hb with ⟨rfl, y', r', ey, er, rfl⟩ | ⟨rfl, er⟩
    · refine iteT ⟨P, g1, ρ1, y', s4.ext x4, ey, fun v5 H5 x5 w5 => ?_⟩
      have x35 : Ext Hc H5 := x34.trans x5
      have hD5 : H5 Dp = some (.lst vs) := x35 _ _ hDc
      have x05 : Ext H H4 := x1.trans (xc.trans x34)
      obtain ⟨f', rf', acc', last⟩ := AccOk.add (mg := mg) (LL := LL) (acc.ext fun a ha u h => x35 a u h) (fun a ha z => rl.there a ha (x34.nope z)) x05 x5 w5 s.loc hg1 fun a L h0 o => by
        refine ⟨h0, ?_⟩
        by_cases hz0 : g1 a = 0
        · exact absurd h0 (s.loc.out a (o.2 hz0))
        · obtain ⟨u, eu, mu | fu⟩ := s1.loc.at_ a hz0
          · have := (xc.trans (x34.trans x5)) a u eu
            rw [this]; exact mu
          · exact absurd h0 (s.loc.fzn fu)
      have hDf' : Dp ∉ f' := fun hm => by
        rcases last Dp hm with y | ⟨L, y⟩
        · have := y.1
          rw [x34 _ _ hDc] at this
          cases this
        · exact y.there s1.loc hD
      have nDf : Dp ∉ f ++ f' := fun hm => (List.mem_append.mp hm).elim nD hDf'
      refine ⟨vs, hD5, Nat.lt_of_le_of_lt hlen (Nat.lt_of_lt_of_le hi' hz), _, by omega, rfl, hi', done ++ [y'], r', vs ++ [v5], f ++ f', by simp, er, upd_same, by simp; omega, ?_, nDf, ?_, ?_⟩
      · exact ((rl.ext x35).append (.one rf')).updL nDf hD5
      · exact acc'.ext fun a ha u h => by rw [upd_ne (fun z => nDf (by rw [← z]; exact ha))]; exact h
      · intro a u h
        rw [upd_ne (ne_of_none h hD)]
        exact x35 a u (xc a u h)
    · refine iteF ⟨_, by omega, rfl, hi', done, rest, vs, f, rfl, er, x34 _ _ hDc, Nat.le_succ_of_le hlen, rl.ext x34, nD, acc.ext fun a ha u h => x34 a u h, xc.trans x34⟩
  · have : i = ds.length := by omega
    subst this
    refine .inl ⟨wstop, ?_⟩
    rw [List.drop_length] at e3
    cases e3
    have w := acc.val rl hDc (x1.nope hD) nD
    rw [← List.append_nil done] at w
    exact q _ Hc (x1.trans xc) w
theorem ex_lc {elt tg iter : Expr} {ifs : List Expr} {scope : Scope} {own : List (Str × Nat)} {si : List D → Option (List D)} {t : Tv} {c : List D → Option Bool} {se : Ev} {labs : List Nat} {me m2 : Md} {S : List Nat} (n : Nat)
    (hc : X.calm = true) (hN : X.N.Nodup) (hi : EI X LL Γ tg iter si labs me) (ok : BlkOk X.N X.env.scope scope own)
    (hg : ∀ (s : Shared) (H : Hp) (C : Addr) (cl : List (Str × Addr)) (fp : List Addr), EG (X.blk s H scope (compEnvC scope cl C X.env) fp) (wipeK Γ (own.map (·.2))) tg (me.kindI n) t Γ1 S)
    (ht : ∀ (s : Shared) (H : Hp) (C : Addr) (cl : List (Str × Addr)) (fp : List Addr), ETs (X.blk s H scope (compEnvC scope cl C X.env) fp) LL Γ1 ifs c)
    (he : ∀ (s : Shared) (H : Hp) (C : Addr) (cl : List (Str × Addr)) (fp : List Addr), EX (X.blk s H scope (compEnvC scope cl C X.env) fp) LL Γ1 elt se m2)
    (hS : ∀ i ∈ S, i ∈ own.map (·.2) := by decide) (hs : ∀ x, foldedSetIterable iter X.env x = pure x := by intro _; rfl) (hn : n ≠ 0 := by decide) :
    EX X LL Γ (.ListComp elt [⟨tg, iter, ifs, 0⟩] scope pos) (eLc si t c se) m2.lc := by
  obtain ⟨wi, pi, ki⟩ := hi
  refine ⟨_, pe_lc (g := canG X.vm (wipeK Γ (own.map (·.2))) (me.kindI n) t Γ1 S) (tt := canB X.vm LL Γ1 c) (te := canT X.vm LL Γ1 se m2) hc hN pi ok (fun s H C cl fp => eg_can (hg s H C cl fp)) (fun s H C cl fp => ets_can (ht s H C cl fp)) (fun s H C cl fp => ex_can (he s H C cl fp)) hs, fun P g ρ σ H d Q s e q => ?_⟩
  exact lc_read hn hS s e (fun ds R h => ki P g ρ σ H ds R s h) q
end
end VV

/-! ## VList -/
namespace VV
open PySem PySem.Spec PyProof.Rows L2

/-! ### parts of lists -/
section
variable {mg : Mg} {H : Hp}
theorem RepL.splitAt : ∀ {ds : List D} {vs : List V} {f : List Addr} (n : Nat), RepL mg H ds vs f → ∃ f1 f2, f = f1 ++ f2 ∧ RepL mg H (ds.take n) (vs.take n) f1 ∧ RepL mg H (ds.drop n) (vs.drop n) f2
  | ds, vs, f, 0, h => ⟨[], f, rfl, by simp [RepL], by simpa using h⟩
  | [], _, _, n + 1, h => by
    simp only [RepL] at h
    obtain ⟨rfl, rfl⟩ := h
    exact ⟨[], [], rfl, by simp [RepL], by simp [RepL]⟩
  | d :: ds, _, _, n + 1, h => by
    simp only [RepL] at h
    obtain ⟨v, r, f1, f2, rfl, h1, h2, rfl⟩ := h
    obtain ⟨g1, g2, rfl, a, b⟩ := RepL.splitAt n h2
    refine ⟨f1 ++ g1, g2, by simp, ?_, by simpa using b⟩
    simp only [List.take_succ_cons, RepL]
    exact ⟨v, _, f1, g1, rfl, h1, a, rfl⟩
def cutG {α : Type} (xs : List α) (lo hi : Option Int) : List α := (xs.drop (HT.sIx xs.length 0 lo)).take (HT.sIx xs.length xs.length hi - HT.sIx xs.length 0 lo)
theorem RepL.cut {ds : List D} {vs : List V} {f : List Addr} (lo hi : Option Int) (h : RepL mg H ds vs f) : ∃ f1 f' f2, f = f1 ++ f' ++ f2 ∧ RepL mg H (cutG ds lo hi) (cutV vs lo hi) f' := by
  unfold cutG cutV
  rw [h.length]
  obtain ⟨f1, g, rfl, _, b⟩ := h.splitAt (HT.sIx ds.length 0 lo)
  obtain ⟨g1, g2, rfl, c, _⟩ := b.splitAt (HT.sIx ds.length ds.length hi - HT.sIx ds.length 0 lo)
  exact ⟨f1, g1, g2, by simp, c⟩
theorem RepL.flats : ∀ {ds : List D} {vs : List V} {f : List Addr}, RepL mg H ds vs f → D.isFlatL ds = true → RepL mg H ds vs [] := fun h e => by
  have := h.flat e
  subst this
  exact h
theorem RepL.rep {ds : List D} {vs : List V} (h : RepL mg H ds vs []) : ∀ k : Nat, RepL mg H (List.replicate k ds).flatten (List.replicate k vs).flatten []
  | 0 => by simp [RepL]
  | k + 1 => by
    rw [List.replicate_succ, List.replicate_succ, List.flatten_cons, List.flatten_cons]
    exact h.append (RepL.rep h k)
end
/-- what a list or tuple has -/
theorem seq_of {mg : Mg} {P : Fm} {g : Addr → Nat} {H H1 : Hp} {m : Md} {l : List D} {v : V} (h : Val mg P g H H1 m (.lst l) v) : ∃ a vs, v = .ref a ∧ H1 a = some (.lst vs) ∧ vs.length = l.length ∧ (∀ lo hi, ValL mg P g H H1 m.child (cutG l lo hi) (cutV vs lo hi)) ∧ ValL mg P g H H1 m.child l vs := by
  obtain ⟨fp, r, o, lb, ch⟩ := h.labs
  simp only [Rep] at r
  obtain ⟨a, vs, f, rfl, ha, h2, rfl⟩ := r
  refine ⟨a, vs, rfl, ha, h2.length, fun lo hi => ?_, ?_⟩
  · obtain ⟨f1, f', f2, rfl, r'⟩ := h2.cut lo hi
    exact ⟨f', r', ch f' ⟨f1, f2, .inl ⟨a, rfl, rfl⟩⟩⟩
  · exact ⟨f, h2, ch f ⟨[], [], .inl ⟨a, rfl, by simp⟩⟩⟩
theorem seq_ofT {mg : Mg} {P : Fm} {g : Addr → Nat} {H H1 : Hp} {m : Md} {l : List D} {v : V} (h : Val mg P g H H1 m (.tup l) v) : ∃ a vs, v = .ref a ∧ H1 a = some (.tup vs) ∧ vs.length = l.length ∧ (∀ lo hi, ValL mg P g H H1 m.child (cutG l lo hi) (cutV vs lo hi)) ∧ ValL mg P g H H1 m.child l vs := by
  obtain ⟨fp, r, o, lb, ch⟩ := h.labs
  have r0 := r
  simp only [Rep] at r
  obtain ⟨a, vs, rfl, ha, h2⟩ := r
  have nt : ∀ b, V.ref a = .ref b → b ∉ fp := fun b e => by cases e; exact r0.notup (.inl ha)
  refine ⟨a, vs, rfl, ha, h2.length, fun lo hi => ?_, ?_⟩
  · obtain ⟨f1, f', f2, rfl, r'⟩ := h2.cut lo hi
    exact ⟨f', r', ch f' ⟨f1, f2, .inr ⟨rfl, nt⟩⟩⟩
  · exact ⟨fp, h2, ch fp ⟨[], [], .inr ⟨by simp, nt⟩⟩⟩

/-! ### slices -/
def EO (X : Cx) (LL : List Nat) (Γ : List Kd) (e : Option Expr) (sem : List D → Option (Option Int)) : Prop :=
  ∃ t, PO X e t ∧ ∀ P g ρ σ H r Q, Sta X.vm P LL Γ g ρ σ H → sem ρ = some r → (∀ H', Ext H H' → Q r H') → t σ H Q
def oNone : List D → Option (Option Int) := fun _ => some none
def oSome (s : Ev) : List D → Option (Option Int) := fun ρ => do match (← s ρ) with
  | .int i => some (some i)
  | _ => none
def dSl : D → Option Int → Option Int → Option D
  | .lst l, lo, hi => some (.lst (cutG l lo hi))
  | .scr l, lo, hi => some (.lst (cutG l lo hi))
  | .tup l, lo, hi => some (.tup (cutG l lo hi))
  | .str z, lo, hi => if z.length ≤ sizeLine then some (.str (cutS z lo hi)) else none
  | _, _, _ => none
def eSl (s : Ev) (lo hi : List D → Option (Option Int)) : Ev := fun ρ => do
  let d ← s ρ
  let l ← lo ρ
  let h ← hi ρ
  dSl d l h
section
variable {X : Cx} {LL : List Nat} {Γ : List Kd} {pos p2 : Pos} {e : Expr} {se : Ev} {m : Md} {lo hi : Option Expr} {sl sh : List D → Option (Option Int)}
theorem eo_none : EO X LL Γ none oNone := ⟨_, po_none, fun P g ρ σ H r Q s e q => by cases e; exact q H Ext.refl⟩
theorem eo_some (h : EX X LL Γ e se m) : EO X LL Γ (some e) (oSome se) := by
  obtain ⟨t, p, k⟩ := h
  refine ⟨_, po_some p, fun P g ρ σ H r Q s e q => ?_⟩
  obtain ⟨d, e1, e⟩ := bind_some e
  refine k P g ρ σ H d _ s e1 fun v H' x w => ?_
  obtain ⟨fp, rr, _⟩ := w.labs
  split at e
  · cases e
    obtain rfl := rInt rr
    exact ⟨_, rfl, q H' x⟩
  · cases e
theorem slice_parts (he : EX X LL Γ e se m) (hl : EO X LL Γ lo sl) (hh : EO X LL Γ hi sh) : ∃ te tl th, PE X e te ∧ PO X lo tl ∧ PO X hi th ∧ ∀ (P : Fm) g ρ σ H (Q : V → Option Int → Option Int → Hp → Prop) d l h, Sta X.vm P LL Γ g ρ σ H → se ρ = some d → sl ρ = some l → sh ρ = some h →
    (∀ v H', Ext H H' → Val X.vm P g H H' m d v → Q v l h H') → te σ H fun x H1 => tl σ H1 fun l H2 => th σ H2 fun u H3 => Q x l u H3 := by
  obtain ⟨te, pe, ke⟩ := he
  obtain ⟨tl, pl, kl⟩ := hl
  obtain ⟨th, ph, kh⟩ := hh
  refine ⟨te, tl, th, pe, pl, ph, fun P g ρ σ H Q d l h s e1 e2 e3 q => ?_⟩
  refine ke P g ρ σ H d _ s e1 fun v H1 x1 w => ?_
  refine kl P g ρ σ H1 l _ (s.ext x1) e2 fun H2 x2 => ?_
  refine kh P g ρ σ H2 h _ (s.ext (x1.trans x2)) e3 fun H3 x3 => ?_
  exact q v H3 (x1.trans (x2.trans x3)) (w.ext (x2.trans x3))
/-- of a list -/
theorem ex_slL (he : EX X LL Γ e se m) (hl : EO X LL Γ lo sl) (hh : EO X LL Γ hi sh) : EX X LL Γ (.Subscript e (.Slice lo hi none p2) pos) (eSl (eChk D.isLst se) sl sh) m.child.lst := by
  obtain ⟨te, tl, th, pe, pl, ph, k⟩ := slice_parts he hl hh
  refine ⟨_, pe_slice sl_list pe pl ph, fun P g ρ σ H d Q s e q => ?_⟩
  obtain ⟨d0, e1, e⟩ := bind_some e
  obtain ⟨l, e2, e⟩ := bind_some e
  obtain ⟨h, e3, e⟩ := bind_some e
  obtain ⟨e1, hc⟩ := Option.filter_eq_some_iff.mp e1
  refine k P g ρ σ H (fun x l u H3 => rSlL X.K x l u H3 Q) d0 l h s e1 e2 e3 fun v H' x w => ?_
  cases d0 with
  | lst ds =>
    cases e
    obtain ⟨a, vs, rfl, ha, _, cut, _⟩ := seq_of w
    exact ⟨a, vs, rfl, SqL.of ha, fun p hp => q _ _ (x.trans (Ext.put hp)) (val_lst (cut l h) x hp)⟩
  | _ => cases hc
end

/-! ### [x] * n, a + b, list(a), tuple(a) -/
def dRep : List D → Option D
  | [.lst l, .int k] => if D.isFlatL l ∧ -1000000 ≤ k ∧ k ≤ 1000000 ∧ l.length * k.toNat ≤ 1000000 then some (.lst (List.replicate k.toNat l).flatten) else none
  | _ => none
def dCatF : List D → Option D
  | [.lst l, .lst r] => if D.isFlatL l ∧ D.isFlatL r ∧ l.length + r.length ≤ 1000000 then some (.lst (l ++ r)) else none
  | _ => none
def dCat : List D → Option D
  | [.lst l, .lst r] => if l.length + r.length ≤ 1000000 then some (.lst (l ++ r)) else none
  | _ => none
theorem line_of {n : Nat} (h : n ≤ 1000000) : n ≤ sizeLine := by rw [sizeLine_eq]; omega
section
variable {X : Cx} {LL : List Nat} {Γ : List Kd} {pos p : Pos} {a b : Expr} {sa sb : Ev} {ma mb : Md}
theorem ex_rep (ha : EX X LL Γ a sa ma) (hb : EX X LL Γ b sb mb) : EX X LL Γ (.BinOp a .Mult b pos) (eP dRep (aCons sa (aCons sb aNil))) (.al false .new [] true) := by
  obtain ⟨ta, tb, pa, pb, k⟩ := two ha hb
  refine ⟨_, pe_op op_rep pa pb, fun P g ρ σ H d Q s e q => ?_⟩
  obtain ⟨ds, e1, e⟩ := bind_some e
  refine k P g ρ σ H ds _ s e1 fun d1 d2 v w H' eds x va vb vl => ?_
  subst eds
  unfold dRep at e
  split at e
  · split at e
    · rename_i l n eq hc
      cases eq
      cases e
      obtain ⟨fp, rr, _⟩ := vb.labs
      obtain rfl := rInt rr
      obtain ⟨c, vs, rfl, hv, hlen, _, fl, rl, _⟩ := seq_of va
      have r0 := rl.flats hc.1
      refine ⟨c, n, vs, rfl, rfl, hv, by omega, by omega, ?_, fun p hp => ?_⟩
      · rw [hlen]; exact line_of hc.2.2.2
      · exact q _ _ (x.trans (Ext.put hp)) (val_lst (m := .flat) ⟨[], r0.rep _, rfl⟩ x hp)
    · cases e
  · cases e
theorem ex_catF (ha : EX X LL Γ a sa ma) (hb : EX X LL Γ b sb mb) : EX X LL Γ (.BinOp a .Add b pos) (eP dCatF (aCons sa (aCons sb aNil))) (.al false .new [] true) := by
  obtain ⟨ta, tb, pa, pb, k⟩ := two ha hb
  refine ⟨_, pe_op op_cat pa pb, fun P g ρ σ H d Q s e q => ?_⟩
  obtain ⟨ds, e1, e⟩ := bind_some e
  refine k P g ρ σ H ds _ s e1 fun d1 d2 v w H' eds x va vb vl => ?_
  subst eds
  unfold dCatF at e
  split at e
  · split at e
    · rename_i l r eq hc
      cases eq
      cases e
      obtain ⟨c, vs, rfl, hv, hlen, _, fl, rl, _⟩ := seq_of va
      obtain ⟨c', vs', rfl, hv', hlen', _, fl', rl', _⟩ := seq_of vb
      refine ⟨c, c', vs, vs', rfl, rfl, hv, hv', ?_, fun p hp => ?_⟩
      · rw [hlen, hlen']; exact line_of hc.2.2
      · exact q _ _ (x.trans (Ext.put hp)) (val_lst (m := .flat) ⟨[], (rl.flats hc.1).append (rl'.flats hc.2.1), rfl⟩ x hp)
    · cases e
  · cases e
def Md.cat : Md → Md → Md
  | .flat, .flat => .al false .new [] true
  | .al fr _ L _, .flat => .al fr .new L false
  | .flat, .al fr _ L _ => .al fr .new L false
  | .al fr _ L _, .al fr' _ L' _ => .al (fr || fr') .new (L ++ L') false
theorem ex_cat (ha : EX X LL Γ a sa ma) (hb : EX X LL Γ b sb mb) : EX X LL Γ (.BinOp a .Add b pos) (eP dCat (aCons sa (aCons sb aNil))) (ma.child.cat mb.child) := by
  obtain ⟨ta, tb, pa, pb, k⟩ := two ha hb
  refine ⟨_, pe_op op_cat pa pb, fun P g ρ σ H d Q s e q => ?_⟩
  obtain ⟨ds, e1, e⟩ := bind_some e
  refine k P g ρ σ H ds _ s e1 fun d1 d2 v w H' eds x va vb vl => ?_
  subst eds
  unfold dCat at e
  split at e
  · split at e
    · rename_i l r eq hc
      cases eq
      cases e
      obtain ⟨c, vs, rfl, hv, hlen, _, fl, rl, o1⟩ := seq_of va
      obtain ⟨c', vs', rfl, hv', hlen', _, fl', rl', o2⟩ := seq_of vb
      refine ⟨c, c', vs, vs', rfl, rfl, hv, hv', ?_, fun p hp => ?_⟩
      · rw [hlen, hlen']; exact line_of hc
      · have rr := rl.append rl'
        generalize ma.child = m1 at o1 q ⊢
        generalize mb.child = m2 at o2 q ⊢
        cases m1 with
        | flat =>
          obtain rfl : fl = [] := o1
          cases m2 with
          | flat =>
            obtain rfl : fl' = [] := o2
            exact q _ _ (x.trans (Ext.put hp)) (val_lst (m := .flat) ⟨[], rr, rfl⟩ x hp)
          | al fr rt L nd => exact q _ _ (x.trans (Ext.put hp)) (val_lst (m := .al fr .unk L false) ⟨_, rr, o2.1, fun z => nomatch z⟩ x hp)
        | al fr rt L nd =>
          cases m2 with
          | flat =>
            obtain rfl : fl' = [] := o2
            rw [List.append_nil] at rr
            exact q _ _ (x.trans (Ext.put hp)) (val_lst (m := .al fr .unk L false) ⟨_, rr, o1.1, fun z => nomatch z⟩ x hp)
          | al fr' rt' L' nd' =>
            refine q _ _ (x.trans (Ext.put hp)) (val_lst (m := .al (fr || fr') .unk (L ++ L') false) ⟨_, rr, fun a ha => ?_, fun z => nomatch z⟩ x hp)
            rcases List.mem_append.mp ha with ha | ha
            · exact (o1.1 a ha).imp (fun ⟨x, y⟩ => ⟨by rw [x]; rfl, y⟩) fun o => ⟨List.mem_append_left _ o.1, o.2⟩
            · exact (o2.1 a ha).imp (fun ⟨x, y⟩ => ⟨by rw [x]; cases fr <;> rfl, y⟩) fun o => ⟨List.mem_append_right _ o.1, o.2⟩
    · cases e
  · cases e
/-- list(e) -/
def dList : List D → Option D
  | [.lst l] => some (.lst l)
  | [.tup l] => some (.lst l)
  | _ => none
/-- calls of one argument by its own value -/
theorem one_arg {sem : Ev} {m : Md} {t : TE} {P : Fm} {g : Addr → Nat} {ρ : List D} {σ : L2.St} {H : Hp} {ds : List D} {Q : List V → Hp → Prop}
    (k : ∀ P g ρ σ H d Q, Sta X.vm P LL Γ g ρ σ H → sem ρ = some d → (∀ v H', Ext H H' → Val X.vm P g H H' m d v → Q v H') → t σ H Q)
    (s : Sta X.vm P LL Γ g ρ σ H) (e1 : aCons sem aNil ρ = some ds) (q : ∀ d v H', ds = [d] → Ext H H' → Val X.vm P g H H' m d v → Q [v] H') : tCons t tNil σ H Q := by
  obtain ⟨d, e2, e1⟩ := bind_some e1
  obtain ⟨r, e3, e1⟩ := bind_some e1
  cases e3
  cases e1
  exact k P g ρ σ H d _ s e2 fun v H' x w => q d v H' rfl x w
theorem ex_list {x : Str} (hg : Gl X x) (hm : X.mg x = none) (hv : bootBuiltins x = some (.type "list")) (ha : EX X LL Γ a sa ma) (hn : x ≠ "__name__" := by decide) (hdb : (x == ("__debug__" : Str)) = false := by decide)
    (he : starEach [a] X.env = (false, eval a X.env) :: starEach [] X.env := by rfl) : EX X LL Γ (.Call (.Name x p) [a] [] pos) (eP dList (aCons sa aNil)) ma.child.lst := by
  obtain ⟨t, pt, k⟩ := ha
  refine ⟨_, pe_callTy call_list_of hg hm hv (pa_cons pt pa_nil he) hn hdb he, fun P g ρ σ H d Q s e q => ?_⟩
  obtain ⟨ds, e1, e⟩ := bind_some e
  refine one_arg k s e1 fun d0 v H1 eds x1 w => ?_
  subst eds
  cases d0 with
  | lst l =>
    cases e
    obtain ⟨c, vs, rfl, hv, _, _, vl⟩ := seq_of w
    exact ⟨c, vs, rfl, .inl (SqL.of hv), fun p hp => q _ _ (x1.trans (Ext.put hp)) (val_lst vl x1 hp)⟩
  | tup l =>
    cases e
    obtain ⟨c, vs, rfl, hv, _, _, vl⟩ := seq_ofT w
    exact ⟨c, vs, rfl, .inr (.inl (.inl hv)), fun p hp => q _ _ (x1.trans (Ext.put hp)) (val_lst vl x1 hp)⟩
  | _ => cases e
/-- tuple(e) -/
def dTuple : List D → Option D
  | [.lst l] => some (.tup l)
  | [.tup l] => some (.tup l)
  | _ => none
theorem ex_tuple {x : Str} (hg : Gl X x) (hm : X.mg x = none) (hv : bootBuiltins x = some (.type "tuple")) (ha : EX X LL Γ a sa ma) (hn : x ≠ "__name__" := by decide) (hdb : (x == ("__debug__" : Str)) = false := by decide)
    (he : starEach [a] X.env = (false, eval a X.env) :: starEach [] X.env := by rfl) : EX X LL Γ (.Call (.Name x p) [a] [] pos) (eP dTuple (aCons sa aNil)) ma.child.tup := by
  obtain ⟨t, pt, k⟩ := ha
  refine ⟨_, pe_callTy call_tuple_of hg hm hv (pa_cons pt pa_nil he) hn hdb he, fun P g ρ σ H d Q s e q => ?_⟩
  obtain ⟨ds, e1, e⟩ := bind_some e
  refine one_arg k s e1 fun d0 v H1 eds x1 w => ?_
  subst eds
  cases d0 with
  | lst l =>
    cases e
    obtain ⟨c, vs, rfl, hv, _, _, vl⟩ := seq_of w
    exact ⟨c, vs, rfl, .inl ⟨SqL.of hv, fun p hp => q _ _ (x1.trans (Ext.put hp)) (val_tup vl hp)⟩⟩
  | tup l =>
    cases e
    obtain ⟨c, vs, rfl, hv, _, _, fp, r, o⟩ := seq_ofT w
    refine ⟨c, vs, rfl, .inr ⟨.inl (.inl hv), q _ _ x1 ?_⟩⟩
    have rr : Rep X.vm H1 (.tup l) (.ref c) fp := by
      simp only [Rep]
      exact ⟨c, vs, rfl, hv, r⟩
    generalize ma.child = m1 at o ⊢
    cases m1 with
    | flat =>
      obtain rfl : fp = [] := o
      exact rr
    | al fr rt L nd => exact ⟨fp, rr, fun a ha => .inr ⟨.inr rfl, o.1 a ha⟩, .unk o.2⟩
  | _ => cases e
end

/-! ### numbers from numbers, bools, lists -/
def dIntC : List D → Option D
  | [.int i] => some (.int i)
  | [.bl b] => some (.int (if b then 1 else 0))
  | _ => none
def boolsOf : List D → Option (List Bool)
  | [] => some []
  | .bl i :: r => (boolsOf r).map (i :: ·)
  | _ :: _ => none
theorem boolsOf_rep {mg : Mg} {H : Hp} : ∀ {l : List D} {ns : List Bool} {vs : List V} {f : List Addr}, boolsOf l = some ns → RepL mg H l vs f → vs = ns.map V.bl
  | [], _, _, _, e, h => by simp only [RepL] at h; cases e; rw [h.1]; rfl
  | d :: r, _, _, _, e, h => by
    simp only [RepL] at h
    obtain ⟨v, vr, f1, f2, rfl, h1, h2, _⟩ := h
    unfold boolsOf at e
    split at e
    · rename_i eq; cases eq
    · rename_i eq
      cases eq
      obtain ⟨ns, e1, rfl⟩ := Option.map_eq_some_iff.mp e
      rw [rBl h1, boolsOf_rep e1 h2]; rfl
    · cases e
def itemsOf : D → Option (List D)
  | .lst l => some l
  | .scr l => some l
  | _ => none
def dAll : List D → Option D
  | [d] => do some (.bl ((← boolsOf (← itemsOf d)).all id))
  | _ => none
section
variable {X : Cx}
theorem items_sq {mg : Mg} {H : Hp} {d : D} {l : List D} {v : V} {f : List Addr} (e : itemsOf d = some l) (h : Rep mg H d v f) : ∃ a vs f', v = .ref a ∧ SqL mg.K H a vs ∧ RepL mg H l vs f' := by
  cases d with
  | lst l' =>
    cases e
    simp only [Rep] at h
    obtain ⟨a, vs, f', rfl, ha, h2, _⟩ := h
    exact ⟨a, vs, f', rfl, SqL.of ha, h2⟩
  | scr l' =>
    cases e
    simp only [Rep] at h
    obtain ⟨a, vs, rfl, ha, h2, _⟩ := h
    exact ⟨a, vs, [], rfl, ha.sq, h2⟩
  | _ => cases e
theorem cp_all : CP X (rAll X.K) dAll toFlat := by
  intro P LL g H H1 m ds vs d Q l x vl e q
  obtain ⟨fp, r⟩ := vl.rep
  unfold dAll at e
  split at e
  · obtain ⟨its, e2, e⟩ := bind_some e
    obtain ⟨ns, e1, e⟩ := bind_some e
    cases e
    obtain ⟨v, rfl, h⟩ := repL1 r
    obtain ⟨a, us, f', rfl, sq, rl⟩ := items_sq e2 h
    rw [boolsOf_rep e1 rl] at sq
    exact ⟨a, ns, rfl, sq, q _ H1 Ext.refl (val_flat rep_bl)⟩
  · cases e
end
end VV

/-! ## VMut -/
namespace VV
open PySem PySem.Spec PyProof.Rows L2

/-! ### zip, enumerate -/
def iZipL (a : List D → Option (List D)) : List D → Option (List D) := fun ρ => do match (← a ρ) with
  | [.lst l, .lst r] => some ((l.zip r).map fun p => .tup [p.1, p.2])
  | _ => none
def iEnumL (s : Ev) : List D → Option (List D) := fun ρ => do match (← s ρ) with
  | .lst l => some (l.mapIdx fun i d => .tup [.int i, d])
  | _ => none
section
variable {X : Cx} {LL : List Nat} {Γ : List Kd} {pos p tpos : Pos} {a b : Expr} {sa sb : Ev} {ma mb : Md} {elts : List Expr} {kk : Nat}
end

/-! ### a, b = a list -/
def gL (ts : List D → List D → Option (List D)) : Tv := fun d ρ => match d with
  | .lst l => ts l ρ
  | _ => none
def Kd.lstChild : Kd → Kd
  | .lab rt L nd => .lab none (match rt with | some n => n :: L | none => L) nd
  | k => k
section
variable {X : Cx} {Γ Γ' : List Kd} {pos : Pos}
end

/-! ### one object is changed -/
def Kd.has (n : Nat) : Kd → Bool
  | .lab rt L _ => L.contains n || (rt == some n)
  | .ob m Ls => m == n || Ls.any fun L => L.contains n
  | _ => false
def killK (n : Nat) (Γ : List Kd) : List Kd := Γ.map fun k => if k.has n then .dead else k
section
variable {mg : Mg} {P : Fm} {LL : List Nat} {Γ : List Kd} {g : Addr → Nat} {ρ : List D} {σ : L2.St} {H : Hp}
theorem rep_upd {H : Hp} {a : Addr} {o o' : HO} {d : D} {v : V} {f : List Addr} (h : Rep mg H d v f) (hn : a ∉ f) (ha : H a = some o) (mu : Mut (some o)) : Rep mg (upd H a o') d v f := by
  refine h.keep (fun b hb => ?_) ⟨fun b xs r => ?_, fun b o2 vs r => ?_, fun b o2 vs r => ?_⟩
  · have : b ≠ a := fun z => hn (by rw [← z]; exact hb)
    exact ⟨fun u _ r => by unfold Rd at r ⊢; rw [upd_ne this]; exact r, fun vs r => by rw [upd_ne this]; exact r, fun _ _ _ r => by rw [upd_ne this]; exact r⟩
  · have : b ≠ a := fun z => by
      rw [z, ha] at r
      cases r
      exact mu
    rw [upd_ne this]
    exact r
  · have : b ≠ a := fun z => by
      rw [z, ha] at r
      cases r
      exact mu
    rw [upd_ne this]
    exact r
  · have : b ≠ a := fun z => by
      rw [z, ha] at r
      cases r
      exact mu
    rw [upd_ne this]
    exact r
theorem repL_upd {H : Hp} {a : Addr} {o o' : HO} {d : List D} {v : List V} {f : List Addr} (h : RepL mg H d v f) (hn : a ∉ f) (ha : H a = some o) (mu : Mut (some o)) : RepL mg (upd H a o') d v f := by
  refine h.keep (fun b hb => ?_) ⟨fun b xs r => ?_, fun b o2 vs r => ?_, fun b o2 vs r => ?_⟩
  · have : b ≠ a := fun z => hn (by rw [← z]; exact hb)
    exact ⟨fun u _ r => by unfold Rd at r ⊢; rw [upd_ne this]; exact r, fun vs r => by rw [upd_ne this]; exact r, fun _ _ _ r => by rw [upd_ne this]; exact r⟩
  · have : b ≠ a := fun z => by
      rw [z, ha] at r
      cases r
      exact mu
    rw [upd_ne this]
    exact r
  · have : b ≠ a := fun z => by
      rw [z, ha] at r
      cases r
      exact mu
    rw [upd_ne this]
    exact r
  · have : b ≠ a := fun z => by
      rw [z, ha] at r
      cases r
      exact mu
    rw [upd_ne this]
    exact r
theorem CellOk.upd {k : Kd} {d : D} {ov : Option V} {a : Addr} {o o' : HO} {n : Nat} (c : CellOk mg P g H k d ov) (ha : H a = some o) (mu : Mut (some o)) (hg : g a = n) : CellOk mg P g (upd H a o') (if k.has n then .dead else k) d ov := by
  split
  · trivial
  · rename_i hh
    cases k with
    | dead => trivial
    | exc _ _ => exact c
    | ob m Ls =>
      obtain ⟨b, C, dx, c, ns, vs, ds, fps, rfl, rfl, hc, hl, r, ob, rs, fs, nd⟩ := c
      have hmn : m ≠ n := fun e => hh (by simp [Kd.has, e])
      have hLn : ∀ L ∈ Ls, n ∉ L := fun L hL hn => hh (by simp only [Kd.has, Bool.or_eq_true, List.any_eq_true]; exact .inr ⟨L, hL, by simpa using hn⟩)
      have hba : b ≠ a := fun e => hmn (by have := List.mem_singleton.mp ob.1.1; rw [e, hg] at this; exact this.symm)
      refine ⟨b, C, dx, c, ns, vs, ds, fps, rfl, rfl, hc, hl, by rw [upd_ne hba]; exact r, ob, rs.monoF fun d v f hf h => rep_upd h (fun hm => ?_) ha mu, fs, nd⟩
      obtain ⟨L, hL, o⟩ := fs.mem hf hm
      exact hLn L hL (hg ▸ o.1)
    | flat => obtain ⟨v, rfl, r⟩ := c; exact ⟨v, rfl, rep_upd r (by simp) ha mu⟩
    | lab rt L nd =>
      obtain ⟨v, fp, rfl, r, q, z⟩ := c
      refine ⟨v, fp, rfl, rep_upd r (fun hm => ?_) ha mu, q, z⟩
      apply hh
      rcases q a hm with ⟨_, m, rfl, y⟩ | ⟨_, y⟩
      · have := List.mem_singleton.mp y.1
        simp [Kd.has, ← this, hg]
      · have := y.1
        rw [hg] at this
        simp [Kd.has, this]
theorem Cells.upd {a : Addr} {o o' : HO} {n : Nat} (ha : H a = some o) (mu : Mut (some o)) (hg : g a = n) : ∀ {Γ : List Kd} {ρ : List D} {σ : L2.St}, Cells mg P g H Γ ρ σ → Cells mg P g (upd H a o') (killK n Γ) ρ σ
  | [], [], [], _ => trivial
  | _ :: _, _ :: _, _ :: _, h => ⟨h.1.upd ha mu hg, Cells.upd ha mu hg h.2⟩
  | [], _ :: _, _, h => h.elim
  | [], [], _ :: _, h => h.elim
  | _ :: _, [], _, h => h.elim
  | _ :: _, _ :: _, [], h => h.elim
theorem Cells.put {k : Kd} {d : D} {v : V} : ∀ {Γ : List Kd} {ρ : List D} {σ : L2.St} (i : Nat), Cells mg P g H Γ ρ σ → CellOk mg P g H k d (some v) → σ[i]? = some (some v) → Cells mg P g H (Γ.set i k) (ρ.set i d) σ
  | [], [], [], _, _, _, _ => trivial
  | _ :: _, _ :: _, _ :: _, 0, h, c, e => ⟨by cases (by simpa using e : _ = some v); exact c, h.2⟩
  | _ :: _, _ :: _, _ :: _, i + 1, h, c, e => ⟨h.1, Cells.put i h.2 c (by simpa using e)⟩
  | [], _ :: _, _, _, h, _, _ => h.elim
  | [], [], _ :: _, _, h, _, _ => h.elim
  | _ :: _, [], _, _, h, _, _ => h.elim
  | _ :: _, _ :: _, [], _, h, _, _ => h.elim
/-- the object at a (label n) becomes o', the slot i tells it anew -/
theorem Sta.put {a : Addr} {o o' : HO} {n i : Nat} {k : Kd} {d : D} {v : V} (s : Sta mg P LL Γ g ρ σ H) (ha : H a = some o) (mu : Mut (some o)) (mu' : Mut (some o')) (hg : g a = n) (hn : n ≠ 0) (hL : n ∉ LL) (hv : σ[i]? = some (some v)) (c : CellOk mg P g (upd H a o') k d (some v)) :
    Sta mg P LL ((killK n Γ).set i k) g (ρ.set i d) σ (upd H a o') ∧ Step LL g H g (upd H a o') := by
  have nl : ∀ b, VV.lk LL (g b) → b ≠ a := fun b h e => by
    subst e
    rw [hg] at h
    exact h.elim hn hL
  refine ⟨⟨⟨fun b hb => ?_, fun b hb => ?_, fun b hb => ?_⟩, Cells.put i (s.cells.upd ha mu hg) c hv⟩, ⟨fun b hb u e => ?_, fun b _ _ => rfl, fun b hb => ?_⟩⟩
  · by_cases e : b = a
    · subst e; exact ⟨o', upd_same, .inl mu'⟩
    · rw [upd_ne e]; exact s.loc.at_ b hb
  · by_cases e : b = a
    · subst e; rw [upd_same]; simp
    · rw [upd_ne e]; exact s.loc.out b hb
  · refine ⟨?_, (s.loc.fz b hb).2⟩
    rw [upd_ne (nl b (s.loc.fz b hb).2)]
    exact (s.loc.fz b hb).1
  · rw [upd_ne (nl b hb)]; exact e
  · by_cases e : b = a
    · subst e; rw [upd_same]; simp
    · rw [upd_ne e]; exact hb
end

/-! ### append -/
def dPush : D → D → Option D
  | .lst l, d => if l.length < 1000000 then some (.lst (l ++ [d])) else none
  | _, _ => none
/-- the list in the slot i, changed by a function of it and a value -/
def sMut (f : D → D → Option D) (i : Nat) (e : Ev) : Sv := fun ρ => do
  let y ← e ρ
  let x ← ρ[i]?
  let z ← f x y
  some (.nx (ρ.set i z))
/-- the kind of a list that has got one more -/
def Md.pushL (c : Nat) : Md → List Nat
  | .flat => []
  | .al fr r L' _ => (match r with | .new => [c] | .old n => [n] | .unk => []) ++ ((if fr then [c] else []) ++ L')
def Md.isNd : Md → Bool
  | .flat => true
  | .al _ _ _ nd => nd
def Kd.push (c : Nat) (k : Kd) (m : Md) : Kd := match k with
  | .lab rt L nd => .lab rt (L ++ m.pushL c) (nd && m.isNd && disj L m.labs)
  | k => k
/-- the nodes of a value, its new ones labelled c -/
theorem Val.pushed {mg : Mg} {P : Fm} {LL : List Nat} {g : Addr → Nat} {H H' : Hp} {m : Md} {d : D} {y : V} {c : Nat} (h : Val mg P g H H' m d y) (l : Loc P LL g H) (hc : c ≠ 0) :
    ∃ f, Rep mg H' d y f ∧ (∀ b ∈ f, Old P (relab g H H' .non c c) (m.pushL c) b) ∧ (m.isNd = true → f.Nodup) ∧ ∀ b ∈ f, New H H' b ∨ Old P g m.labs b := by
  obtain ⟨f, r, o, lb, _⟩ := h.labs
  refine ⟨f, r, fun b hb => ?_, fun hn => ?_, lb⟩
  · cases m with
    | flat =>
      obtain rfl : f = [] := o
      cases hb
    | al fr rt L nd =>
      obtain ⟨f0, r0, o0, _⟩ := h
      have nw : New H H' b → (c ∈ (Md.al fr rt L nd).pushL c) → Old P (relab g H H' .non c c) ((Md.al fr rt L nd).pushL c) b := fun n hm => by
        unfold Old
        rw [relab_new n]
        simp only [if_neg (show V.non ≠ V.ref b from fun z => nomatch z)]
        exact ⟨hm, fun z => absurd z hc⟩
      have old : ∀ {K : List Nat}, Old P g K b → (∀ k ∈ K, k ∈ (Md.al fr rt L nd).pushL c) → Old P (relab g H H' .non c c) ((Md.al fr rt L nd).pushL c) b := fun {K} y hK => by
        have y' := Old.relab (H' := H') (v := .non) (n := c) (m := c) y l
        exact ⟨hK _ y'.1, y'.2⟩
      cases rt with
      | new =>
        rcases o.1 b hb with y | y
        · exact nw y.2 (List.mem_append_left _ List.mem_cons_self)
        · exact old y fun k hk => List.mem_append_right _ (List.mem_append_right _ hk)
      | old n =>
        rcases o.1 b hb with ⟨hf, y⟩ | y
        · subst hf
          exact nw y (List.mem_append_right _ (List.mem_append_left _ List.mem_cons_self))
        · refine old y fun k hk => ?_
          rcases List.mem_cons.mp hk with e | e
          · rw [e]; exact List.mem_append_left _ List.mem_cons_self
          · exact List.mem_append_right _ (List.mem_append_right _ e)
      | unk =>
        rcases o.1 b hb with ⟨hf, y⟩ | y
        · subst hf
          exact nw y (List.mem_append_right _ (List.mem_append_left _ List.mem_cons_self))
        · exact old y fun k hk => List.mem_append_right _ (List.mem_append_right _ hk)
  · cases m with
    | flat =>
      obtain rfl : f = [] := o
      exact List.nodup_nil
    | al fr rt L nd => cases rt <;> exact o.2 hn
section
variable {X : Cx} {W : L2.WX} {sc : Sc} {Γ : List Kd} {pos : Pos}
theorem sx_append {i : Nat} {x : Str} {px ap cp : Pos} {e : Expr} {se : Ev} {m : Md} {n : Nat} {L : List Nat} {nd : Bool} (c : Nat) (hk : Γ[i]? = some (.lab (some n) L nd)) (hN : X.N[i]? = some x) (hv : Vis X.env.scope x) (he : EX X sc.LL Γ e se m)
    (hn : n ≠ 0 := by decide) (hL : n ∉ sc.LL := by decide) (hm : n ∉ m.labs := by decide) (hc : c ≠ 0 := by decide) (hdb : (x == ("__debug__" : Str)) = false := by decide) (hcd : (x == ("__classdict__" : Str)) = false := by decide)
    (hbase : attributeBase (.Name x px) "append" X.env (eval (.Name x px) X.env) = eval (.Name x px) X.env := by rfl)
    (hfew : ((backTo cp (starEach [e] X.env)).all (fun x => !x.1) && (backToKw cp (keywordEach [] X.env)).all (fun x => x.1.isSome)
      && decide ([e].length + ([] : List Keyword).length + (if ([] : List Keyword).isEmpty then 0 else 1) < 30)) = true := by rfl)
    (hline : (ap.endLine == cp.line) = true := by rfl) (hs : starEach [e] X.env = (false, eval e X.env) :: starEach [] X.env := by rfl) (hplain : (backTo cp (starEach [] X.env)).any (·.1) = false := by rfl)
    (hsw : swapsWith (.Call (.Attribute (.Name x px) "append" ap) [e] [] cp) none pos.line X.env = pure false := by rfl) :
    SX X W sc Γ (.Expr (.Call (.Attribute (.Name x px) "append" ap) [e] [] cp) pos) (sMut dPush i se) ((killK n Γ).set i (Kd.push c (.lab (some n) L nd) m)) := by
  obtain ⟨t, pt, kk⟩ := he
  refine ⟨_, ps_expr (pe_bm PySem.F.plainAttrs_list PySem.F.slot_list_append PySem.F.type_list_append mt_append (pe_var hN hv hdb hcd) (pa_cons pt pa_nil hs) hbase hfew hline hs hplain) hsw, fun P g ρ σ H o De s e w => ?_⟩
  obtain ⟨d, e1, e⟩ := bind_some e
  obtain ⟨l, e2, e⟩ := bind_some e
  obtain ⟨z, e3, e⟩ := bind_some e
  cases e
  obtain ⟨l', ov, h1, h2, h3⟩ := s.cells.get hk
  rw [e2] at h1; cases h1
  cases l with
  | lst ds =>
    unfold dPush at e3
    dsimp only at e3
    split at e3
    · rename_i hlen
      cases e3
      obtain ⟨v, fp, rfl, r, q, z⟩ := h3
      simp only [Rep] at r
      obtain ⟨a, vs, f, rfl, ha, rl, rfl⟩ := r
      have hga : g a = n := by
        rcases q a List.mem_cons_self with ⟨_, k, ek, y⟩ | ⟨y, _⟩
        · cases ek; exact List.mem_singleton.mp y.1
        · rcases y with y | y
          · exact absurd rfl y
          · cases y
      have haf : a ∉ f := z.2 rfl a f rfl rfl
      refine ⟨.ref a, h2, .inl ⟨rfl, _, .inl (.inl ha)⟩, ?_⟩
      refine kk P g ρ σ H d _ s e1 fun y H2 x2 wv => ?_
      obtain ⟨fy, ry, oy, ndy, lby⟩ := wv.pushed (c := c) s.loc hc
      have ha2 : H2 a = some (.lst vs) := x2 a _ ha
      have hay : a ∉ fy := fun hm' => by
        rcases lby a hm' with y | y
        · have := y.1; rw [ha] at this; cases this
        · have := y.1; rw [hga] at this; exact hm this
      have st2 : Sta X.vm P sc.LL Γ (relab g H H2 .non c c) ρ σ H2 := s.relab x2
      have hg2 : relab g H H2 .non c c a = n := by rw [relab_old (by rw [ha]; simp)]; exact hga
      refine ⟨a, vs, y, rfl, rfl, ha2, ?_, ?_⟩
      · rw [rl.length, sizeLine_eq]; omega
      have oldf : ∀ b ∈ f, Old P g L b := fun b hb => by
        rcases q b (List.mem_cons_of_mem _ hb) with ⟨e, _⟩ | ⟨_, y⟩
        · cases e; exact absurd hb haf
        · exact y
      have cell : CellOk X.vm P (relab g H H2 .non c c) (upd H2 a (.lst (vs ++ [y]))) (Kd.push c (.lab (some n) L nd) m) (.lst (ds ++ [d])) (some (.ref a)) := by
        refine ⟨.ref a, a :: (f ++ fy), rfl, ?_, fun b hb => ?_, fun hn' => ?_, fun _ b g' e1 e2 => ?_⟩
        · simp only [Rep]
          exact ⟨a, vs ++ [y], f ++ fy, rfl, upd_same, (repL_upd (rl.ext x2) haf ha2 trivial).append (.one (rep_upd ry hay ha2 trivial)), rfl⟩
        · rcases List.mem_cons.mp hb with rfl | hb
          · exact .inl ⟨rfl, n, rfl, by rw [hg2]; exact List.mem_singleton.mpr rfl, fun z => by rw [hg2] at z; exact absurd z hn⟩
          · rcases List.mem_append.mp hb with hb | hb
            · have y' := Old.relab (H' := H2) (v := .non) (n := c) (m := c) (oldf b hb) s.loc
              exact .inr ⟨.inl fun e => by cases e; exact haf hb, List.mem_append_left _ y'.1, y'.2⟩
            · have y' := oy b hb
              exact .inr ⟨.inl fun e => by cases e; exact hay hb, List.mem_append_right _ y'.1, y'.2⟩
        · simp only [Bool.and_eq_true] at hn'
          obtain ⟨⟨n1, n2⟩, dj⟩ := hn'
          refine List.nodup_cons.mpr ⟨fun hm => (List.mem_append.mp hm).elim haf hay, List.nodup_append.mpr ⟨(List.nodup_cons.mp (z.1 n1)).2, ndy n2, fun b hb b' hb' e => ?_⟩⟩
          subst e
          rcases lby b hb' with y | y
          · exact (oldf b hb).there s.loc y.1
          · exact disj_ok dj (oldf b hb).1 y.1
        · cases e2
          exact fun hm => (List.mem_append.mp hm).elim haf hay
      obtain ⟨s3, st3⟩ := st2.put (o' := .lst (vs ++ [y])) ha2 trivial trivial hg2 hn hL h2 cell
      exact w _ σ _ ((Step.relab x2).trans st3) s3
    · cases e3
  | _ => cases e3
end
end VV

/-! ## VBool -/
namespace VV
open PySem PySem.Spec PyProof.Rows L2
def vAnd (a b : Ev) : Ev := fun ρ => match a ρ with
  | some (.bl true) => b ρ
  | some (.bl false) => some (.bl false)
  | _ => none
def vOr (a b : Ev) : Ev := fun ρ => match a ρ with
  | some (.bl false) => b ρ
  | some (.bl true) => some (.bl true)
  | _ => none
def vNot (a : Ev) : Ev := fun ρ => match a ρ with
  | some (.bl b) => some (.bl (!b))
  | _ => none
section
variable {X : Cx} {W : L2.WX} {sc : Sc} {LL : List Nat} {Γ Γ1 Γ' : List Kd} {pos : Pos} {a b c : Expr} {sa sb s2 : Ev} {ma mb mc : Md} {rest : List Expr}
theorem ex_one {op} (ha : EX X LL Γ a sa ma) : EX X LL Γ (.BoolOp op [a] pos) sa ma := let ⟨t, p, k⟩ := ha; ⟨t, pe_one p, k⟩
theorem ex_and (ha : EX X LL Γ a sa .flat) (hb : EX X LL Γ (.BoolOp .And (b :: rest) pos) sb .flat) : EX X LL Γ (.BoolOp .And (a :: b :: rest) pos) (vAnd sa sb) .flat := by
  obtain ⟨t, p, k⟩ := ha
  obtain ⟨t', p', k'⟩ := hb
  refine ⟨_, pe_and p p', fun P g ρ σ H d Q s e q => ?_⟩
  unfold vAnd at e
  split at e
  · rename_i h
    refine k P g ρ σ H _ _ s h fun v H1 x1 w => ⟨true, rBl (show Rep X.vm H1 (.bl true) v [] from w), ?_⟩
    exact iteT (k' P g ρ σ H1 d Q (s.ext x1) e fun v2 H2 x2 w2 => q v2 H2 (x1.trans x2) w2)
  · rename_i h
    cases e
    refine k P g ρ σ H _ _ s h fun v H1 x1 w => ⟨false, rBl (show Rep X.vm H1 (.bl false) v [] from w), ?_⟩
    exact iteF (q _ H1 x1 (val_flat rep_bl))
  · cases e
theorem ex_not (ha : EX X LL Γ a sa .flat) : EX X LL Γ (.UnaryOp .Not a pos) (vNot sa) .flat := by
  obtain ⟨t, p, k⟩ := ha
  refine ⟨_, pe_not p, fun P g ρ σ H d Q s e q => ?_⟩
  unfold vNot at e
  split at e
  · rename_i b h
    cases e
    refine k P g ρ σ H _ _ s h fun v H1 x1 w => ⟨b, rBl (show Rep X.vm H1 (.bl b) v [] from w), q _ H1 x1 (val_flat rep_bl)⟩
  · cases e
/-- a OP b OP' c, ints -/
def dCh (f g : Int → Int → Bool) : List D → Option D
  | [.int a, .int b, .int c] => some (.bl (f a b && g b c))
  | _ => none
end
end VV

/-! ## VLaw -/
namespace VV
open PySem PySem.Spec PyProof.Rows L2

/-- a def that may be called by its name -/
def Cal (P : Program) (w : World) (K : PySem.W.Frag) (mg : Str → Option Value) (base : Heap) (x : Str) (k : Nat) (ps : List Str) (sem : List D → Option Res) (R : Rm) : Prop :=
  ∃ f fd, FnOk P w K mg base CX0 k f fd ps (sp0 ⟨mg, K⟩ sem ps.length R) ∧ mg x = some (.ref f) ∧ PySem.W.keepIn K (.ref f) = true ∧ Binds K fd ps []
section
variable {X : Cx} {LL : List Nat} {Γ : List Kd} {pos p : Pos} {k : Nat} {ps : List Str} {sem : List D → Option Res} {R : Rm} {x : Str}
theorem ex_calls_flat {e : Expr} {es : List Expr} {a : List D → Option (List D)} {m : Md} (c : Cal X.prog X.w X.K X.mg X.base x k ps sem .flat) (hr : Room k X.A) (hg : Gl X x) (ha : EA X LL Γ (e :: es) a m) (hn : (e :: es).length = ps.length := by rfl)
    (hdb : (x == ("__debug__" : Str)) = false := by decide) (he : starEach (e :: es) X.env = (false, eval e X.env) :: starEach es X.env := by rfl) (hpl : (backTo pos (starEach es X.env)).any (·.1) = false := by rfl) :
    EX X LL Γ (.Call (.Name x p) (e :: es) [] pos) (eCall sem a) .flat := by
  obtain ⟨f, fd, F, hm, hk, hb⟩ := c
  exact ex_call F hr hg hm hk hb ha hn hdb he hpl
theorem ex_calls_fresh {e : Expr} {es : List Expr} {a : List D → Option (List D)} {m : Md} (c : Cal X.prog X.w X.K X.mg X.base x k ps sem .fresh) (hr : Room k X.A) (hg : Gl X x) (ha : EA X LL Γ (e :: es) a m) (hn : (e :: es).length = ps.length := by rfl)
    (hdb : (x == ("__debug__" : Str)) = false := by decide) (he : starEach (e :: es) X.env = (false, eval e X.env) :: starEach es X.env := by rfl) (hpl : (backTo pos (starEach es X.env)).any (·.1) = false := by rfl) :
    EX X LL Γ (.Call (.Name x p) (e :: es) [] pos) (eCall sem a) (.al true .new [] true) := by
  obtain ⟨f, fd, F, hm, hk, hb⟩ := c
  exact ex_call F hr hg hm hk hb ha hn hdb he hpl
theorem ex_calls_news {e : Expr} {es : List Expr} {a : List D → Option (List D)} {m : Md} (c : Cal X.prog X.w X.K X.mg X.base x k ps sem .news) (hr : Room k X.A) (hg : Gl X x) (ha : EA X LL Γ (e :: es) a m) (hn : (e :: es).length = ps.length := by rfl)
    (hdb : (x == ("__debug__" : Str)) = false := by decide) (he : starEach (e :: es) X.env = (false, eval e X.env) :: starEach es X.env := by rfl) (hpl : (backTo pos (starEach es X.env)).any (·.1) = false := by rfl) :
    EX X LL Γ (.Call (.Name x p) (e :: es) [] pos) (eCall sem a) (.al true .unk [] false) := by
  obtain ⟨f, fd, F, hm, hk, hb⟩ := c
  exact ex_call F hr hg hm hk hb ha hn hdb he hpl
end
theorem scr_rep {mg : Mg} {H : Hp} {a : Addr} {ns : List Int} (h : SqL mg.K H a (ns.map V.int)) (o : Only H) : RepL mg H [.scr (ns.map D.int)] [.ref a] [] := by
  have key : ∀ ns : List Int, RepL mg H (ns.map D.int) (ns.map V.int) [] := fun ns => by
    induction ns with
    | nil => simp [RepL]
    | cons n r ih => simp only [List.map_cons, RepL]; exact ⟨_, _, [], [], rfl, rep_int, ih, rfl⟩
  simp only [RepL, Rep]
  refine ⟨_, _, [], [], rfl, ⟨a, _, rfl, ?_, key ns, rfl⟩, ⟨rfl, rfl⟩, rfl⟩
  rcases h with (h | h) | h
  · rcases o a with z | ⟨_, _, z⟩ <;> rw [h] at z <;> cases z
  · exact .inl h
  · exact .inr h
theorem rf_bl {mg : Mg} {H H' : Hp} {fp : List Addr} {R : Rm} {b : Bool} {v : V} (r : RF mg H H' fp R (.bl b) v) : v = .bl b := by
  cases R with
  | flat => exact rBl (show Rep mg H' (.bl b) v [] from r)
  | fresh => obtain ⟨_, r, _⟩ := r; exact rBl r
  | out => obtain ⟨_, r, _⟩ := r; exact rBl r
  | news => obtain ⟨_, r, _⟩ := r; exact rBl r
  | outN => obtain ⟨_, r, _⟩ := r; exact rBl r
end VV

/-! ## VDict -/
namespace VV
open PySem PySem.Spec PyProof.Rows L2

/-! ### keys -/
def keyD : L2.Key → D
  | .inl i => .int i
  | .inr s => .str s
def D.ky1 : D → Option L2.Key
  | .int i => some (.inl i)
  | .str s => some (.inr s)
  | _ => none
def D.kyL : List D → Option (List L2.Key)
  | [] => some []
  | d :: r => match d.ky1, D.kyL r with
    | some k, some ks => some (k :: ks)
    | _, _ => none
def D.ky (tk : Bool) (d : D) : Option Ky := match tk with
  | false => d.ky1.map Ky.k
  | true => match d with
    | .tup l => (D.kyL l).map Ky.t
    | _ => none
def Ky.d : Ky → D
  | .k x => keyD x
  | .t l => .tup (l.map keyD)
section
variable {mg : Mg} {H : Hp}
end

/-! ### tables of keys and values -/
def lkD {α : Type} (ks : List Ky) (ds : List α) (k : Ky) : Option α := ((ks.zip ds).find? fun p => decide (p.1 = k)).map (·.2)
def putKs (ks : List Ky) (k : Ky) : List Ky := if k ∈ ks then ks else ks ++ [k]
def putDs {α : Type} (ks : List Ky) (ds : List α) (k : Ky) (d : α) : List α := if k ∈ ks then (ks.zip ds).map (fun p => if p.1 = k then d else p.2) else ds ++ [d]
section
variable {mg : Mg} {H : Hp} {κ : Type} [DecidableEq κ] {em : κ → Ky}
end

/-! ### reading -/
def dGet : List D → Option D
  | [.dic tk ks ds, x] => (x.ky tk).bind (lkD ks ds)
  | _ => none
section
variable {mg : Mg} {H : Hp} {a : Addr} {tk : Bool} {ks : List Ky} {ds : List D} {vs : List V} {f : List Addr} {x d : D} {y : V} {fy : List Addr} {k : Ky}
end
section
variable {X : Cx} {LL : List Nat} {Γ : List Kd} {pos : Pos} {a b c : Expr} {sa sb s2 : Ev} {ma mb mc : Md}
end
end VV

/-! ## VDict2 -/
namespace VV
open PySem PySem.Spec PyProof.Rows L2

/-! ### one of two -/

/-! ### get, in -/
def dGet2 : List D → Option D
  | [.dic tk ks ds, x, z] => (x.ky tk).map fun k => (lkD ks ds k).getD z
  | _ => none
def dIn : List D → Option D
  | [x, .dic tk ks ds] => (x.ky tk).map fun k => .bl (lkD ks ds k).isSome
  | _ => none
section
variable {X : Cx} {LL : List Nat} {Γ : List Kd} {pos apos cpos : Pos} {a b c : Expr} {sa sb s2 : Ev} {ma mb mc : Md}
end
end VV

/-! ## VDict3 -/
namespace VV
open PySem PySem.Spec PyProof.Rows L2

/-! ### what stands after a store, a removal -/
section
variable {mg : Mg} {H : Hp}
end

/-! ### d[k] = v -/
/-- the thing in the slot i gets v at x -/
def sPut (f : D → D → D → Option D) (i : Nat) (ex ev : Ev) : Sv := fun ρ => do
  let v ← ev ρ
  let x ← ex ρ
  let d ← ρ[i]?
  let z ← f d x v
  some (.nx (ρ.set i z))
theorem root_lab {P : Fm} {g : Addr → Nat} {n : Nat} {L : List Nat} {a : Addr} {f : List Addr} (q : ∀ b ∈ a :: f, (V.ref a = .ref b ∧ ∃ k, some n = some k ∧ Old P g [k] b) ∨ ((V.ref a ≠ .ref b ∨ some n = none) ∧ Old P g L b)) : g a = n := by
  rcases q a List.mem_cons_self with ⟨_, k, ek, y⟩ | ⟨y, _⟩
  · cases ek; exact List.mem_singleton.mp y.1
  · rcases y with y | y
    · exact absurd rfl y
    · cases y
section
variable {X : Cx} {W : L2.WX} {sc : Sc} {Γ : List Kd} {pos : Pos}
end

/-! ### d.pop(k), a statement -/
section
variable {X : Cx} {W : L2.WX} {sc : Sc} {Γ : List Kd} {pos : Pos}
end
end VV

/-! ## VDict4 -/
namespace VV
open PySem PySem.Spec PyProof.Rows L2

/-! ### a dict is locked while its keys are walked -/
section
variable {mg : Mg} {P : Fm} {LL : List Nat} {g : Addr → Nat} {H : Hp} {a : Addr} {u : HO} {od : Obj}
end
section
variable {X : Cx} {W : L2.WX} {sc : Sc} {Γ Γ1 : List Kd} {pos : Pos}
end
end VV

/-! ## VDict5 -/
namespace VV
open PySem PySem.Spec PyProof.Rows L2

/-! ### {}, dict(d), list(d) -/
def dDicC : List D → Option D
  | [.dic false ks ds] => some (.dic false ks ds)
  | _ => none
def dKeysL : List D → Option D
  | [.dic false ks _] => some (.lst (ks.map Ky.d))
  | _ => none
section
variable {X : Cx} {LL : List Nat} {Γ : List Kd} {pos : Pos}
end
end VV

/-! ## VEqX -/
namespace PySem.SeqAt
open AutoSeq1 (wpAny_loadPart')
open MeetsSeq MeetsSeq2 MeetsSeq3 SeqRoads2
/-! ### != of lists whose items are told equal in one model -/
section
variable {prog : Program} {w : World} {l b : Addr} {xs ys : Array Value} {n m : Nat} {dd de : Option Addr} {sl sm : Array (Option Value)}
end
end PySem.SeqAt

/-! ## VEqY -/
namespace PySem.W
section
variable {prog : Program} {w : World} {K : Type} [DecidableEq K] {knd : PySem.KeyKind prog w K} {A : Around} {E : Value → Shared → Prop} {s : Shared}
end
end PySem.W
namespace VV
open PySem PySem.Spec PyProof.Rows L2

/-! ### equal things, dicts among them -/
section
variable {X : Cx} {pins : List (Addr × Obj)} {σ : L2.St} {H : Hp} {s : Shared}
end
section
variable {X : Cx}
end

/-! ### as trees -/
section
variable {mg : Mg} {H : Hp}
end
section
variable {X : Cx} {LL : List Nat} {Γ : List Kd} {pos : Pos} {a b : Expr} {sa sb : Ev} {ma mb : Md}
end
end VV

/-! ## VNeY -/
namespace VV
open PySem PySem.Spec PyProof.Rows L2
section
variable {prog : Program} {w : World} {K : Type} [DecidableEq K] {knd : KeyKind prog w K} {A : Around} {s : Shared}
open PyProof.V PySem.Calls in
end
section
variable {X : Cx} {pins : List (Addr × Obj)} {σ : L2.St} {H : Hp} {s : Shared}
end
section
variable {X : Cx}
end
section
variable {X : Cx} {LL : List Nat} {Γ : List Kd} {pos : Pos} {a b : Expr} {sa sb : Ev} {ma mb : Md}
end
end VV

/-! ## VIsi -/
namespace VV
open PySem PySem.Spec PyProof.Rows L2

/-! ### isinstance(x, T), T a built-in type -/
def D.tyN : D → Option String
  | .non => some "NoneType"
  | .bl _ => some "bool"
  | .int _ => some "int"
  | .str _ => some "str"
  | .tup _ => some "tuple"
  | .kti _ => some "tuple"
  | .lst _ => some "list"
  | .scr _ => some "list"
  | .dic false _ _ => some "dict"
  | _ => none
theorem rep_ty {mg : Mg} {H : Hp} {d : D} {v : V} {fp : List Addr} {n : String} (r : Rep mg H d v fp) (h : d.tyN = some n) : TyX mg.K H v (.type n) := by
  cases d with
  | non => cases h; rw [rNon r]; exact .base .non
  | bl b => cases h; rw [rBl r]; exact .base (.bl b)
  | int i => cases h; rw [rInt r]; exact .base (.int i)
  | str s => cases h; rw [rStr r]; exact .base (.str s)
  | kti l =>
    cases h
    simp only [Rep] at r
    obtain ⟨⟨a, o, rfl, e, _⟩, _⟩ := r
    exact .fTuple e
  | dix ks ds => cases h
  | tup l =>
    cases h
    simp only [Rep] at r
    obtain ⟨a, vs, rfl, e, _⟩ := r
    exact .base (.tup e)
  | lst l =>
    cases h
    simp only [Rep] at r
    obtain ⟨a, vs, f, rfl, e, _⟩ := r
    exact .base (.lst e)
  | scr l =>
    cases h
    simp only [Rep] at r
    obtain ⟨a, vs, rfl, e, _⟩ := r
    rcases e with ⟨o, e⟩ | ⟨o, its, n, e, c, _⟩
    · exact .base (.frz e)
    · exact .kList e c
  | dic tk ks l =>
    cases tk with
    | false =>
      cases h
      simp only [Rep] at r
      obtain ⟨a, vs, f, rfl, ⟨_, kl, _, e | ⟨o, e⟩⟩, _⟩ := r
      · exact .base (.dK e)
      · exact .fDict e
    | true => cases h
  | obj c ns fs => cases h
  | fn x => cases h
def dIsi (T : String) : List D → Option D
  | [d] => d.tyN.bind fun n => (kitB n T).map .bl
  | _ => none
section
variable {X : Cx} {LL : List Nat} {Γ : List Kd} {pos p q : Pos} {e : Expr} {se : Ev} {m : Md}
theorem ex_isi {T : Str} {Ts : String} (hg : Gl X "isinstance") (hm : X.mg "isinstance" = none) (hv : bootBuiltins "isinstance" = some (.builtin "isinstance")) (gT : Gl X T) (mT : X.mg T = none) (vT : bootBuiltins T = some (.type Ts)) (he : EX X LL Γ e se m)
    (hn : T ≠ "__name__" := by decide) (hd : (T == ("__debug__" : Str)) = false := by decide)
    (hs : starEach [e, .Name T q] X.env = (false, eval e X.env) :: starEach [.Name T q] X.env := by rfl) (hs2 : starEach [.Name T q] X.env = (false, eval (.Name T q) X.env) :: starEach [] X.env := by rfl)
    (hpl : (backTo pos (starEach [.Name T q] X.env)).any (·.1) = false := by rfl) :
    EX X LL Γ (.Call (.Name "isinstance" p) [e, .Name T q] [] pos) (eP (dIsi Ts) (aCons se aNil)) .flat := by
  obtain ⟨t, pt, k⟩ := he
  have pT : PE X (.Name T q) (tC (.ty Ts)) := pe_bltn gT mT vT rfl hn hd
  refine ⟨_, pe_callB call_isi hg hm hv (pa_cons pt (pa_cons pT pa_nil hs2) hs) (by decide) (by decide) hs hpl, fun P g ρ σ H d Q s e0 q => ?_⟩
  obtain ⟨ds, e1, e0⟩ := bind_some e0
  obtain ⟨d1, ea, e1⟩ := bind_some e1
  obtain ⟨r1, er, e1⟩ := bind_some e1
  cases er; cases e1
  unfold dIsi at e0
  obtain ⟨n, hn', e0⟩ := bind_some e0
  simp only [Option.map_eq_some_iff] at e0
  obtain ⟨b, hb, rfl⟩ := e0
  refine k P g ρ σ H d1 _ s ea fun v H1 x1 w => ?_
  obtain ⟨fp, r, _⟩ := w.labs
  exact ⟨v, .ty Ts, .type n, .type Ts, b, rfl, .ty Ts, rep_ty r hn', kit_ty hb, q _ H1 x1 (val_flat rep_bl)⟩
end
end VV

/-! ## VPut -/
namespace VV
open PySem PySem.Spec PyProof.Rows L2

/-! ### x[j] = v, x a list in a slot -/
theorem repL_set {mg : Mg} {H : Hp} {d : D} {y : V} {fy : List Addr} (ry : Rep mg H d y fy) : ∀ {ds : List D} {vs : List V} {f : List Addr} {j : Nat}, RepL mg H ds vs f → j < ds.length →
    ∃ f', RepL mg H (ds.set j d) (vs.set j y) f' ∧ (∀ b ∈ f', b ∈ f ∨ b ∈ fy) ∧ (f.Nodup → fy.Nodup → (∀ b ∈ f, b ∉ fy) → f'.Nodup)
  | [], _, _, _, _, h => by simp at h
  | d0 :: ds, _, _, 0, h, _ => by
    simp only [RepL] at h
    obtain ⟨v, r, f1, f2, rfl, h1, h2, rfl⟩ := h
    refine ⟨fy ++ f2, ?_, fun b hb => (List.mem_append.mp hb).elim .inr fun z => .inl (List.mem_append_right _ z), fun n1 n2 dj => List.nodup_append.mpr ⟨n2, (List.nodup_append.mp n1).2.1, fun a ha b hb e => dj b (List.mem_append_right _ hb) (e ▸ ha)⟩⟩
    simp only [List.set_cons_zero, RepL]
    exact ⟨y, r, fy, f2, rfl, ry, h2, rfl⟩
  | d0 :: ds, _, _, j + 1, h, hj => by
    simp only [RepL] at h
    obtain ⟨v, r, f1, f2, rfl, h1, h2, rfl⟩ := h
    obtain ⟨f', g1, g2, g3⟩ := repL_set ry h2 (j := j) (by simpa using hj)
    refine ⟨f1 ++ f', ?_, fun b hb => ?_, fun n1 n2 dj => ?_⟩
    · simp only [List.set_cons_succ, RepL]
      exact ⟨v, _, f1, f', rfl, h1, g1, rfl⟩
    · rcases List.mem_append.mp hb with z | z
      · exact .inl (List.mem_append_left _ z)
      · exact (g2 b z).imp (fun q => List.mem_append_right _ q) id
    · obtain ⟨a1, a2, a3⟩ := List.nodup_append.mp n1
      refine List.nodup_append.mpr ⟨a1, g3 a2 n2 fun b hb => dj b (List.mem_append_right _ hb), fun a ha b hb e => ?_⟩
      rcases g2 b hb with q | q
      · exact a3 a ha b q e
      · exact dj a (List.mem_append_left _ ha) (e ▸ q)
def lPut : D → D → D → Option D
  | .lst l, .int k, v => (ixN l.length k).map fun j => .lst (l.set j v)
  | _, _, _ => none
section
variable {X : Cx} {W : L2.WX} {sc : Sc} {Γ : List Kd} {pos : Pos}
theorem sx_lput {i : Nat} {x : Str} {px pos' : Pos} {e j : Expr} {se sj : Ev} {m mj : Md} {n : Nat} {L : List Nat} {nd : Bool} (c : Nat) (hk : Γ[i]? = some (.lab (some n) L nd)) (hN : X.N[i]? = some x) (hv : Vis X.env.scope x)
    (he : EX X sc.LL Γ e se m) (hj : EX X sc.LL Γ j sj mj)
    (hn : n ≠ 0 := by decide) (hL : n ∉ sc.LL := by decide) (hm : n ∉ m.labs := by decide) (hc : c ≠ 0 := by decide) (hdb : (x == ("__debug__" : Str)) = false := by decide) (hcd : (x == ("__classdict__" : Str)) = false := by decide)
    (ha : ∀ v, assign (.Subscript (.Name x px) j pos') X.env v = (do
      let ov ← holding [v] (eval (.Name x px) X.env)
      let iv ← holding [v, ov] (eval j X.env)
      standAt pos'
      holding [v, ov, iv] (setItem ov iv v)
      release [v, ov, iv] []) := by intro _; rfl)
    (hs : swapsWithSole [.Subscript (.Name x px) j pos'] e pos.line X.env = pure false := by rfl) (hw : swappedStores [.Subscript (.Name x px) j pos'] e X.env = pure none := by rfl)
    (h1 : (assignEach [.Subscript (.Name x px) j pos'] X.env).map (·.2) = [assign (.Subscript (.Name x px) j pos') X.env] := by rfl) :
    SX X W sc Γ (.Assign [.Subscript (.Name x px) j pos'] e pos) (sPut lPut i sj se) ((killK n Γ).set i (Kd.push c (.lab (some n) L nd) m)) := by
  obtain ⟨t, pt, kk⟩ := he
  obtain ⟨tj, pj, kj⟩ := hj
  refine ⟨_, ps_asg pt (pg_sub (pe_var hN hv hdb hcd) pj set_list ha) hs hw h1, fun P g ρ σ H o De s e w => ?_⟩
  obtain ⟨d, e1, e⟩ := bind_some e
  obtain ⟨xk, e2, e⟩ := bind_some e
  obtain ⟨dd, e3, e⟩ := bind_some e
  obtain ⟨z, e4, e⟩ := bind_some e
  cases e
  obtain ⟨l', ov, h1, h2, h3⟩ := s.cells.get hk
  rw [e3] at h1; cases h1
  unfold lPut at e4
  split at e4
  · rename_i l k eq0
    simp only [Option.map_eq_some_iff] at e4
    obtain ⟨jj, ej, rfl⟩ := e4
    obtain ⟨v, fp, rfl, r, q, z⟩ := h3
    simp only [Rep] at r
    obtain ⟨a, vs, f, rfl, ho0, rl, rfl⟩ := r
    have hga : g a = n := root_lab q
    have haf : a ∉ f := z.2 rfl a f rfl rfl
    refine kk P g ρ σ H _ _ s e1 fun y H2 x2 wv => ?_
    refine ⟨.ref a, h2, ?_⟩
    refine kj P g ρ σ H2 _ _ (s.ext x2) e2 fun yk H3 x3 wk => ?_
    obtain ⟨fk, rk, _⟩ := wk.labs
    obtain rfl := rInt rk
    have x23 := x2.trans x3
    have ho3 : H3 a = some (.lst vs) := x23 a _ ho0
    obtain ⟨fy, ry, oy, ndy, lby⟩ := (wv.ext x3).pushed (c := c) s.loc hc
    have hay : a ∉ fy := fun hm' => by
      rcases lby a hm' with y | y
      · have := y.1; rw [ho0] at this; cases this
      · have := y.1; rw [hga] at this; exact hm this
    have st2 : Sta X.vm P sc.LL Γ (relab g H H3 .non c c) ρ σ H3 := s.relab x23
    have hg2 : relab g H H3 .non c c a = n := by rw [relab_old (by rw [ho0]; simp)]; exact hga
    have rl3 := rl.ext x23
    have hjl : jj < l.length := by
      unfold ixN at ej
      split at ej
      · split at ej <;> cases ej <;> omega
      · split at ej <;> cases ej <;> omega
    refine ⟨a, vs, k, jj, rfl, rfl, ho3, by rw [rl.length]; exact ej, ?_⟩
    obtain ⟨f', g1, g2, g3⟩ := repL_set ry rl3 hjl
    have haf' : a ∉ f' := fun hm => (g2 a hm).elim haf hay
    have oldf : ∀ b ∈ f, Old P g L b := fun b hb => by
      rcases q b (List.mem_cons_of_mem _ hb) with ⟨e, _⟩ | ⟨_, y⟩
      · cases e; exact absurd hb haf
      · exact y
    have cell : CellOk X.vm P (relab g H H3 .non c c) (upd H3 a (.lst (vs.set jj y))) (Kd.push c (.lab (some n) L nd) m) (.lst (l.set jj d)) (some (.ref a)) := by
      refine ⟨.ref a, a :: f', rfl, ?_, fun b hb => ?_, fun hn' => ?_, fun _ b g' e1 e2 => ?_⟩
      · simp only [Rep]
        exact ⟨a, _, f', rfl, upd_same, repL_upd g1 haf' ho3 trivial, rfl⟩
      · rcases List.mem_cons.mp hb with rfl | hb
        · exact .inl ⟨rfl, n, rfl, by rw [hg2]; exact List.mem_singleton.mpr rfl, fun z => by rw [hg2] at z; exact absurd z hn⟩
        · rcases g2 b hb with hb' | hb'
          · have y' := Old.relab (H' := H3) (v := .non) (n := c) (m := c) (oldf b hb') s.loc
            exact .inr ⟨.inl fun e => by cases e; exact haf hb', List.mem_append_left _ y'.1, y'.2⟩
          · have y' := oy b hb'
            exact .inr ⟨.inl fun e => by cases e; exact hay hb', List.mem_append_right _ y'.1, y'.2⟩
      · simp only [Bool.and_eq_true] at hn'
        obtain ⟨⟨n1, n2⟩, dj⟩ := hn'
        refine List.nodup_cons.mpr ⟨haf', g3 (List.nodup_cons.mp (z.1 n1)).2 (ndy n2) fun b hb hb' => ?_⟩
        rcases lby b hb' with y | y
        · exact (oldf b hb).there s.loc y.1
        · exact disj_ok dj (oldf b hb).1 y.1
      · cases e2
        exact haf'
    obtain ⟨s3, st3⟩ := st2.put (o' := .lst (vs.set jj y)) ho3 trivial trivial hg2 hn hL h2 cell
    exact w _ σ _ ((Step.relab x23).trans st3) s3
  · cases e4
end
end VV

/-! ## VDisp -/
namespace VV
open PySem PySem.Spec PyProof.Rows L2

/-! ### {k: v, ..}, keys ints and texts, values flat -/
def dDispA : List Ky → List D → List D → Option D
  | ks, vs, [] => some (.dic false ks vs)
  | ks, vs, k :: d :: r => match k.ky false with
    | some kk => dDispA (putKs ks kk) (putDs ks vs kk d) r
    | none => none
  | _, _, _ => none
def eDisp (a : List D → Option (List D)) : Ev := fun ρ => do dDispA [] [] (← a ρ)
section
variable {X : Cx} {LL : List Nat} {Γ : List Kd} {pos : Pos} {k v : Expr} {ks : List (Option Expr)} {vs : List Expr} {sk sv : Ev} {sr : List D → Option (List D)}
end
end VV

/-! ## VSimp -/
namespace VV
open PySem PySem.Spec PyProof.Rows L2
/-- keeps a lemma from being used without a trace -/
theorem of_rfl {α : Sort u} {a b : α} (h : a = b) : a = b := h

def _root_.Option.ob {α : Type u} {β : Type v} (o : Option α) (f : α → Option β) : Option β := o.bind f
@[simp] theorem ob_some {α : Type u} {β : Type v} {x : α} {f : α → Option β} : (some x).ob f = f x := of_rfl rfl
@[simp] theorem ob_none {α : Type u} {β : Type v} {f : α → Option β} : (none : Option α).ob f = none := of_rfl rfl
/-! ### the functions of trees, evaluated -/
def asB : D → Option Bool
  | .bl b => some b
  | _ => none
def asRet : Option Res → Option D
  | some (.ret d) => some d
  | _ => none
def asL : D → Option (List D)
  | .lst l => some l
  | .scr l => some l
  | _ => none
def asT : D → Option (List D)
  | .tup l => some l
  | _ => none
def outR : Option Out → Option Res
  | some (.nx _) => some (.ret .non)
  | some (.rt d) => some (.ret d)
  | some (.ex c _) => some (.exn c)
  | _ => none
def seqO (o : Option Out) (b : Sv) : Option Out := match o with
  | some (.nx ρ) => b ρ
  | o => o
section
variable {i n : Nat} {ρ : List D} {d : D} {e e1 e2 : Ev} {a r : List D → Option (List D)} {f : List D → Option D} {g : List D → Option Res} {p : D → Bool} {s1 s2 : Sv} {c c2 : List D → Option Bool} {t : Tv} {pk : List Kd} {ds : List D}
@[simp] theorem eVar_s : eVar i ρ = ρ[i]? := of_rfl rfl
@[simp] theorem eC_s : eC d ρ = some d := of_rfl rfl
@[simp] theorem aNil_s : aNil ρ = some [] := of_rfl rfl
@[simp] theorem aCons_s : aCons e a ρ = (e ρ).ob fun d => (a ρ).ob fun ds => some (d :: ds) := of_rfl rfl
@[simp] theorem eP_s : eP f a ρ = (a ρ).ob f := of_rfl rfl
@[simp] theorem eTup_s : eTup a ρ = (a ρ).ob fun ds => some (.tup ds) := of_rfl rfl
@[simp] theorem eLst_s : eLst a ρ = (a ρ).ob fun ds => some (.lst ds) := of_rfl rfl
@[simp] theorem eChk_s : eChk p e ρ = (e ρ).filter p := of_rfl rfl
@[simp] theorem tOf_s : tOf e ρ = (e ρ).ob asB := by
  unfold tOf
  cases e ρ with
  | none => rfl
  | some d => cases d <;> rfl
@[simp] theorem asB_s {b : Bool} : asB (.bl b) = some b := of_rfl rfl
@[simp] theorem eCall_s : eCall g a ρ = (a ρ).ob fun ds => asRet (g ds) := by
  unfold eCall
  cases a ρ with
  | none => rfl
  | some ds =>
    show (match g ds with | some (.ret d) => some d | _ => none) = asRet (g ds)
    cases g ds with
    | none => rfl
    | some r => cases r <;> rfl
@[simp] theorem asRet_s : asRet (some (.ret d)) = some d := of_rfl rfl
@[simp] theorem sNil_s : sNil ρ = some (.nx ρ) := of_rfl rfl
@[simp] theorem sPass_s : sPass ρ = some (.nx ρ) := of_rfl rfl
@[simp] theorem sCont_s : sCont ρ = some (.ct ρ) := of_rfl rfl
@[simp] theorem sRetN_s : sRetN ρ = some (.rt .non) := of_rfl rfl
@[simp] theorem sSeq_s : sSeq s1 s2 ρ = seqO (s1 ρ) s2 := by
  unfold sSeq seqO
  cases s1 ρ with
  | none => rfl
  | some o => cases o <;> rfl
@[simp] theorem seqO_nx : seqO (some (.nx ρ)) s2 = s2 ρ := of_rfl rfl
@[simp] theorem seqO_rt : seqO (some (.rt d)) s2 = some (.rt d) := of_rfl rfl
@[simp] theorem seqO_ct : seqO (some (.ct ρ)) s2 = some (.ct ρ) := of_rfl rfl
@[simp] theorem sRet_s : sRet e ρ = (e ρ).ob fun d => some (.rt d) := of_rfl rfl
@[simp] theorem sSet_s : sSet i e ρ = (e ρ).ob fun d => some (.nx (ρ.set i d)) := of_rfl rfl
@[simp] theorem sAsg_s : sAsg t e ρ = (e ρ).ob fun d => (t d ρ).ob fun ρ' => some (.nx ρ') := of_rfl rfl
theorem sIf_s : sIf c s1 s2 ρ = (c ρ).ob fun b => if b then s1 ρ else s2 ρ := rfl
@[simp] theorem sIf_t (h : c ρ = some true) : sIf c s1 s2 ρ = s1 ρ := by rw [sIf_s, h]; rfl
@[simp] theorem sIf_f (h : c ρ = some false) : sIf c s1 s2 ρ = s2 ρ := by rw [sIf_s, h]; rfl
@[simp] theorem wAnd_s : wAnd c c2 ρ = (c ρ).ob fun b => if b then c2 ρ else some false := of_rfl rfl
@[simp] theorem wOr_s : wOr c c2 ρ = (c ρ).ob fun b => if b then some true else c2 ρ := of_rfl rfl
@[simp] theorem wNot_s : wNot c ρ = (c ρ).ob fun b => some (!b) := of_rfl rfl
@[simp] theorem vNot_s : vNot e ρ = (e ρ).ob fun d => (asB d).ob fun b => some (.bl (!b)) := by
  unfold vNot
  cases e ρ with
  | none => rfl
  | some d => cases d <;> rfl
@[simp] theorem vAnd_s : vAnd e1 e2 ρ = (e1 ρ).ob fun d => (asB d).ob fun b => if b then e2 ρ else some (.bl false) := by
  unfold vAnd
  cases e1 ρ with
  | none => rfl
  | some d =>
    cases d with
    | bl b => cases b <;> rfl
    | _ => rfl
@[simp] theorem vOr_s : vOr e1 e2 ρ = (e1 ρ).ob fun d => (asB d).ob fun b => if b then some (.bl true) else e2 ρ := by
  unfold vOr
  cases e1 ρ with
  | none => rfl
  | some d =>
    cases d with
    | bl b => cases b <;> rfl
    | _ => rfl
@[simp] theorem cYes_s : cYes ρ = some true := of_rfl rfl
@[simp] theorem gN_s : gN i d ρ = some (ρ.set i d) := of_rfl rfl
@[simp] theorem gF_s : gF t d ρ = if d.isFlat then t d ρ else none := of_rfl rfl
@[simp] theorem gT_s {l : List D} {ts : List D → List D → Option (List D)} : gT ts (.tup l) ρ = ts l ρ := of_rfl rfl
@[simp] theorem gL_s {l : List D} {ts : List D → List D → Option (List D)} : gL ts (.lst l) ρ = ts l ρ := of_rfl rfl
@[simp] theorem gsNil_s : gsNil [] ρ = some ρ := of_rfl rfl
@[simp] theorem gsCons_s {l : List D} {ts : List D → List D → Option (List D)} : gsCons t ts (d :: l) ρ = (t d ρ).ob fun ρ' => ts l ρ' := of_rfl rfl
@[simp] theorem fl_non : D.non.isFlat = true := of_rfl rfl
@[simp] theorem fl_int {k : Int} : (D.int k).isFlat = true := of_rfl rfl
@[simp] theorem fl_bl {k : Bool} : (D.bl k).isFlat = true := of_rfl rfl
@[simp] theorem fl_str {k : Str} : (D.str k).isFlat = true := of_rfl rfl
@[simp] theorem fl_scr {k : List D} : (D.scr k).isFlat = true := of_rfl rfl
@[simp] theorem fl_fn {k : Str} : (D.fn k).isFlat = true := of_rfl rfl
@[simp] theorem fl_tup {k : List D} : (D.tup k).isFlat = D.isFlatL k := by simp only [D.isFlat]
@[simp] theorem fl_lst {k : List D} : (D.lst k).isFlat = false := by simp only [D.isFlat]
@[simp] theorem flL_nil : D.isFlatL [] = true := by simp only [D.isFlatL]
@[simp] theorem flL_cons {k : List D} : D.isFlatL (d :: k) = (d.isFlat && D.isFlatL k) := by simp only [D.isFlatL]
@[simp] theorem flL_ints {k : List Int} : D.isFlatL (k.map D.int) = true := by
  induction k with
  | nil => rfl
  | cons a r ih => simp only [List.map_cons, flL_cons, fl_int, ih, Bool.and_self]
@[simp] theorem kf_lst {k : List D} : (D.lst k).kidsFlat = D.isFlatL k := of_rfl rfl
theorem fn_s (h : pkOk pk ds = true) : fnSem n pk s1 ds = outR (s1 (ds ++ List.replicate (n - ds.length) .non)) := by
  unfold fnSem
  refine (if_pos h).trans ?_
  unfold outR
  cases s1 (ds ++ List.replicate (n - ds.length) .non) with
  | none => rfl
  | some o => cases o <;> rfl
@[simp] theorem outR_rt : outR (some (.rt d)) = some (.ret d) := of_rfl rfl
@[simp] theorem outR_nx : outR (some (.nx ρ)) = some (.ret .non) := of_rfl rfl
@[simp] theorem pk_nil : pkOk [] [] = true := of_rfl rfl
@[simp] theorem pk_flat {k : List D} : pkOk (.flat :: pk) (d :: k) = (d.isFlat && pkOk pk k) := of_rfl rfl
@[simp] theorem pk_lab {k : List D} : pkOk (.lab none [0] false :: pk) (d :: k) = pkOk pk k := of_rfl rfl

@[simp] theorem dI2_s {h : Int → Int → Int} {x y : Int} : dI2 h [.int x, .int y] = some (.int (h x y)) := of_rfl rfl
@[simp] theorem dB2_s {h : Int → Int → Bool} {x y : Int} : dB2 h [.int x, .int y] = some (.bl (h x y)) := of_rfl rfl
@[simp] theorem dI1_s {h : Int → Int} {x : Int} : dI1 h [.int x] = some (.int (h x)) := of_rfl rfl
theorem dMul_s {x y : Int} (h : CMulX x y) : dMul [.int x, .int y] = some (.int (x * y)) := if_pos h
theorem dDiv_s {x y : Int} (h : CDivW x y) : dDiv [.int x, .int y] = some (.int (x / y)) := if_pos h
@[simp] theorem dMod_s {x y : Int} (h : 0 < y) : dMod [.int x, .int y] = some (.int (x % y)) := if_pos h
theorem dPow_s {x y : Int} (h : CPow x y) : dPow [.int x, .int y] = some (.int (x ^ y.toNat)) := if_pos h
theorem pow_e {a b c : Int} (h : CPow a b) (e : a ^ b.toNat = c) : eP dPow (aCons (eC (.int a)) (aCons (eC (.int b)) aNil)) = eC (.int c) := by
  funext ρ
  rw [← e]
  exact dPow_s h
@[simp] theorem dLen_l {l : List D} : dLen [.lst l] = some (.int l.length) := of_rfl rfl
@[simp] theorem dLen_c {l : List D} : dLen [.scr l] = some (.int l.length) := of_rfl rfl
@[simp] theorem dLen_t {l : List D} : dLen [.tup l] = some (.int l.length) := of_rfl rfl
@[simp] theorem dIdx_l {l : List D} {k : Int} : dIdx [.lst l, .int k] = atI l k := of_rfl rfl
@[simp] theorem dIdx_c {l : List D} {k : Int} : dIdx [.scr l, .int k] = atI l k := of_rfl rfl
@[simp] theorem dIdx_t {l : List D} {k : Int} : dIdx [.tup l, .int k] = atI l k := of_rfl rfl
theorem atI_n {α : Type} {l : List α} {k : Nat} : atI l (k : Int) = l[k]? := by
  unfold atI ixN
  rw [if_pos (by omega)]
  by_cases h : k < l.length
  · rw [if_pos (by omega)]; simp
  · rw [if_neg (by omega)]; simp; omega
theorem atI_of {α : Type} {l : List α} {z : Int} {k : Nat} (h : z = k) : atI l z = l[k]? := by rw [h]; exact atI_n
@[simp] theorem atI_0 {α : Type} {l : List α} : atI l 0 = l[0]? := atI_of (k := 0) rfl
@[simp] theorem atI_lit {α : Type} {l : List α} {n : Nat} : atI l (no_index (OfNat.ofNat n : Int)) = l[(OfNat.ofNat n : Nat)]? := atI_of (k := n) rfl
@[simp] theorem atI_1 {α : Type} {l : List α} : atI l 1 = l[1]? := atI_of (k := 1) rfl
@[simp] theorem dInt_i {k : Int} : dIntC [.int k] = some (.int k) := of_rfl rfl
@[simp] theorem dInt_b {k : Bool} : dIntC [.bl k] = some (.int (if k then 1 else 0)) := of_rfl rfl
@[simp] theorem eLc_s {it : List D → Option (List D)} : eLc it t c e ρ = (it ρ).ob fun xs => (lcL t c e ρ xs).ob fun ys => some (.lst ys) := of_rfl rfl
@[simp] theorem iLst_s : iLst e ρ = (e ρ).ob asL := by
  unfold iLst
  cases e ρ with
  | none => rfl
  | some d => cases d <;> rfl
@[simp] theorem iTupl_s : iTupl e ρ = (e ρ).ob asT := by
  unfold iTupl
  cases e ρ with
  | none => rfl
  | some d => cases d <;> rfl
@[simp] theorem asL_l {l : List D} : asL (.lst l) = some l := of_rfl rfl
@[simp] theorem asL_c {l : List D} : asL (.scr l) = some l := of_rfl rfl
@[simp] theorem asT_t {l : List D} : asT (.tup l) = some l := of_rfl rfl
@[simp] theorem sFor_s {it : List D → Option (List D)} {b : Sv} : sFor it t b ρ = (it ρ).ob fun xs => forL t b xs ρ := of_rfl rfl
@[simp] theorem sMut_s {h : D → D → Option D} : sMut h i e ρ = (e ρ).ob fun y => (ρ[i]?).ob fun x => (h x y).ob fun z => some (.nx (ρ.set i z)) := of_rfl rfl
theorem dPush_s {l : List D} (h : l.length < 1000000) : dPush (.lst l) d = some (.lst (l ++ [d])) := if_pos h
theorem iRng1_s {k : Int} (h : a ρ = some [.int k]) (h1 : k ≤ 10000000) (h2 : -10000000 ≤ k) : iRng a ρ = some (rngD 0 k.toNat) := by
  unfold iRng
  rw [h]
  exact if_pos ⟨h1, h2⟩
theorem rng0 {k : Nat} : rngD 0 k = (List.range k).map fun i : Nat => D.int i := by
  unfold rngD
  apply List.map_congr_left
  intro i _
  simp
@[simp] theorem iEnum_s : iEnumL e ρ = (e ρ).ob fun d => match d with | .lst l => some (l.mapIdx fun i d => .tup [.int i, d]) | _ => none := of_rfl rfl
@[simp] theorem oNone_s : oNone ρ = some none := of_rfl rfl
@[simp] theorem oSome_s : oSome e ρ = (e ρ).ob fun d => match d with | .int i => some (some i) | _ => none := of_rfl rfl
@[simp] theorem eSl_s {lo hi : List D → Option (Option Int)} : eSl e lo hi ρ = (e ρ).ob fun d => (lo ρ).ob fun l => (hi ρ).ob fun h => dSl d l h := of_rfl rfl
@[simp] theorem dSl_l {l : List D} {lo hi : Option Int} : dSl (.lst l) lo hi = some (.lst (cutG l lo hi)) := of_rfl rfl
theorem dSl_t {l : List D} {lo hi : Option Int} (_ : ¬ (HT.sIx l.length 0 lo = 0 ∧ HT.sIx l.length l.length hi = l.length)) : dSl (.tup l) lo hi = some (.tup (cutG l lo hi)) := rfl
end

/-! ### comprehensions, loops -/
theorem lcL_map {α : Type} {t : Tv} {c : List D → Option Bool} {e : Ev} {ρ : List D} (x : α → D) (y : α → D) : ∀ l : List α, (∀ a ∈ l, ∃ ρ1, t (x a) ρ = some ρ1 ∧ c ρ1 = some true ∧ e ρ1 = some (y a)) → lcL t c e ρ (l.map x) = some (l.map y)
  | [], _ => rfl
  | a :: r, h => by
    obtain ⟨ρ1, h1, h2, h3⟩ := h a List.mem_cons_self
    have ih := lcL_map x y r fun b hb => h b (List.mem_cons_of_mem _ hb)
    show lcL t c e ρ (x a :: r.map x) = _
    unfold lcL
    rw [h1]
    simp [h2, h3, ih]
/-- the same by places: the invariant speaks of how many items are done -/
theorem forL_inv {α : Type} {t : Tv} {b : Sv} (x : α → D) (l : List α) (R : Nat → List D → Prop) (ρ : List D) (h0 : R 0 ρ)
    (k : ∀ (i : Nat) (a : α) (ρ : List D), l[i]? = some a → R i ρ → ∃ ρ1 ρ2, t (x a) ρ = some ρ1 ∧ (b ρ1 = some (.nx ρ2) ∨ b ρ1 = some (.ct ρ2)) ∧ R (i + 1) ρ2) : ∃ ρ', forL t b (l.map x) ρ = some (.nx ρ') ∧ R l.length ρ' := by
  have gen : ∀ (m : Nat) (i : Nat) (ρ : List D), m = l.length - i → i ≤ l.length → R i ρ → ∃ ρ', forL t b ((l.drop i).map x) ρ = some (.nx ρ') ∧ R l.length ρ' := by
    intro m
    induction m with
    | zero =>
      intro i ρ hm hi h
      have : i = l.length := by omega
      subst this
      exact ⟨ρ, by simp [forL], h⟩
    | succ m ih =>
      intro i ρ hm hi h
      have hlt : i < l.length := by omega
      obtain ⟨ρ1, ρ2, h1, h2, h3⟩ := k i l[i] ρ (List.getElem?_eq_getElem hlt) h
      obtain ⟨ρ', h4, h5⟩ := ih (i + 1) ρ2 (by omega) hlt h3
      refine ⟨ρ', ?_, h5⟩
      rw [List.drop_eq_getElem_cons hlt]
      show forL t b (x l[i] :: (l.drop (i + 1)).map x) ρ = _
      unfold forL
      rw [h1]
      dsimp only
      rcases h2 with h2 | h2 <;> rw [h2] <;> exact h4
  have := gen l.length 0 ρ (by simp) (Nat.zero_le _) h0
  simpa using this
end VV

/-! ## VSimp2 -/
namespace VV
open PySem PySem.Spec PyProof.Rows L2
/-! ### the trees of dicts, evaluated -/
section
variable {i n : Nat} {ρ : List D} {d : D} {e e1 e2 : Ev} {tk : Bool} {ks : List Ky} {l : List D} {t : Tv} {b : Sv}
@[simp] theorem sPut_s {f : D → D → D → Option D} : sPut f i e1 e2 ρ = (e2 ρ).ob fun v => (e1 ρ).ob fun x => (ρ[i]?).ob fun d => (f d x v).ob fun z => some (.nx (ρ.set i z)) := of_rfl rfl
@[simp] theorem kyF_int {k : Int} : (D.int k).ky false = some (.k (.inl k)) := of_rfl rfl
@[simp] theorem dGet_s {x : D} : dGet [.dic tk ks l, x] = (x.ky tk).ob (lkD ks l) := of_rfl rfl
@[simp] theorem dGet2_s {x z : D} : dGet2 [.dic tk ks l, x, z] = (x.ky tk).map fun k => (lkD ks l k).getD z := of_rfl rfl
@[simp] theorem dIn_s {x : D} : dIn [x, .dic tk ks l] = (x.ky tk).map fun k => .bl (lkD ks l k).isSome := of_rfl rfl
@[simp] theorem dKeysL_s : dKeysL [.dic false ks l] = some (.lst (ks.map Ky.d)) := of_rfl rfl
@[simp] theorem dDicC_s : dDicC [.dic false ks l] = some (.dic false ks l) := of_rfl rfl
@[simp] theorem eDisp_s {a : List D → Option (List D)} : eDisp a ρ = (a ρ).ob (dDispA [] []) := of_rfl rfl
theorem isi_s {T N : String} {r : Bool} (h : d.tyN = some N) (hk : kitB N T = some r) : dIsi T [d] = some (.bl r) := by
  unfold dIsi
  simp only [h, Option.bind_some, hk, Option.map_some]
theorem kit_dd : kitB "dict" "dict" = some true := by decide +kernel
theorem kit_ii : kitB "int" "int" = some true := by decide +kernel
theorem kit_ib : kitB "int" "bool" = some false := by decide +kernel
@[simp] theorem isi_dict : dIsi "dict" [.dic false ks l] = some (.bl true) := isi_s (N := "dict") rfl kit_dd
@[simp] theorem isi_int {k : Int} : dIsi "int" [.int k] = some (.bl true) := isi_s (N := "int") rfl kit_ii
@[simp] theorem isi_intb {k : Int} : dIsi "bool" [.int k] = some (.bl false) := isi_s (N := "int") rfl kit_ib
end
end VV

/-! ## VGo -/
/-! walking through trees: a statement goes to an out that keeps Q -/
namespace VV
open PySem PySem.Spec PyProof.Rows L2
theorem beq_dec {α : Type} [BEq α] [LawfulBEq α] [DecidableEq α] (a b : α) : (a == b) = decide (a = b) := by rw [Bool.eq_iff_iff]; simp
section
variable {X : Cx} {LL : List Nat} {Γ : List Kd} {e : Expr} {a b c : Int}
theorem ex_powc (h : EX X LL Γ e (eP dPow (aCons (eC (.int a)) (aCons (eC (.int b)) aNil))) .flat) (hc : CPow a b) (he : a ^ b.toNat = c) : EX X LL Γ e (eC (.int c)) .flat := by rw [← pow_e hc he]; exact h
end
def Go (s : Sv) (ρ : List D) (Q : Out → Prop) : Prop := ∃ o, s ρ = some o ∧ Q o
def Cont (b : Sv) (Q : Out → Prop) : Out → Prop
  | .nx ρ => Go b ρ Q
  | o => Q o
section
variable {i n : Nat} {ρ : List D} {d : D} {e e1 e2 : Ev} {s1 s2 a b : Sv} {c : List D → Option Bool} {t : Tv} {pk : List Kd} {ds : List D} {Q : Out → Prop}
theorem Go.mono {Q' : Out → Prop} (h : Go a ρ Q) (k : ∀ o, Q o → Q' o) : Go a ρ Q' := by
  obtain ⟨o, h1, h2⟩ := h
  exact ⟨o, h1, k o h2⟩
@[simp] theorem cont_nx : Cont b Q (.nx ρ) = Go b ρ Q := of_rfl rfl
@[simp] theorem cont_rt : Cont b Q (.rt d) = Q (.rt d) := of_rfl rfl
@[simp] theorem cont_ct : Cont b Q (.ct ρ) = Q (.ct ρ) := of_rfl rfl
@[simp] theorem go_seq : Go (sSeq a b) ρ Q = Go a ρ (Cont b Q) := by
  unfold Go
  rw [sSeq_s]
  cases h : a ρ with
  | none => simp [seqO]
  | some o =>
    cases o with
    | nx r => simp [seqO, Cont, Go]
    | _ => simp [seqO, Cont]
@[simp] theorem go_nil : Go sNil ρ Q = Q (.nx ρ) := by simp [Go]
@[simp] theorem go_pass : Go sPass ρ Q = Q (.nx ρ) := by simp [Go]
@[simp] theorem go_ct : Go sCont ρ Q = Q (.ct ρ) := by simp [Go]
@[simp] theorem go_retN : Go sRetN ρ Q = Q (.rt .non) := by simp [Go]
@[simp] theorem go_set : Go (sSet i e) ρ Q = ∃ d, e ρ = some d ∧ Q (.nx (ρ.set i d)) := by
  unfold Go
  rw [sSet_s]
  cases e ρ <;> simp
@[simp] theorem go_ret : Go (sRet e) ρ Q = ∃ d, e ρ = some d ∧ Q (.rt d) := by
  unfold Go
  rw [sRet_s]
  cases e ρ <;> simp
@[simp] theorem go_asg : Go (sAsg t e) ρ Q = ∃ d, e ρ = some d ∧ ∃ ρ', t d ρ = some ρ' ∧ Q (.nx ρ') := by
  unfold Go
  rw [sAsg_s]
  cases e ρ with
  | none => simp
  | some d => cases h : t d ρ <;> simp [h]
@[simp] theorem go_mut {f : D → D → Option D} : Go (sMut f i e) ρ Q = ∃ y, e ρ = some y ∧ ∃ x, ρ[i]? = some x ∧ ∃ z, f x y = some z ∧ Q (.nx (ρ.set i z)) := by
  unfold Go
  rw [sMut_s]
  cases e ρ with
  | none => simp
  | some y =>
    cases h : ρ[i]? with
    | none => simp
    | some x => cases h2 : f x y <;> simp [h2]
@[simp] theorem go_put {f : D → D → D → Option D} : Go (sPut f i e1 e2) ρ Q = ∃ v, e2 ρ = some v ∧ ∃ x, e1 ρ = some x ∧ ∃ d, ρ[i]? = some d ∧ ∃ z, f d x v = some z ∧ Q (.nx (ρ.set i z)) := by
  unfold Go
  rw [sPut_s]
  cases e2 ρ with
  | none => simp
  | some v =>
    cases e1 ρ with
    | none => simp
    | some x =>
      cases h : ρ[i]? with
      | none => simp
      | some d => cases h2 : f d x v <;> simp [h2]
theorem Go.set (h : e ρ = some d) (k : Go b (ρ.set i d) Q) : Go (sSeq (sSet i e) b) ρ Q := by
  rw [go_seq, go_set]; exact ⟨d, h, k⟩
theorem Go.ret (h : e ρ = some d) (k : Q (.rt d)) : Go (sRet e) ρ Q := by
  rw [go_ret]; exact ⟨d, h, k⟩
theorem Go.asg {ρ' : List D} (h : e ρ = some d) (h2 : t d ρ = some ρ') (k : Go b ρ' Q) : Go (sSeq (sAsg t e) b) ρ Q := by
  rw [go_seq, go_asg]; exact ⟨d, h, ρ', h2, k⟩
theorem Go.put1 {f : D → D → D → Option D} {x y v z : D} (h : e2 ρ = some v) (h0 : e1 ρ = some x) (h1 : ρ[i]? = some y) (h2 : f y x v = some z) (k : Q (.nx (ρ.set i z))) : Go (sPut f i e1 e2) ρ Q := by
  rw [go_put]; exact ⟨v, h, x, h0, y, h1, z, h2, k⟩
theorem go_if : Go (sIf c a b) ρ Q = ∃ t, c ρ = some t ∧ Go (if t then a else b) ρ Q := by
  unfold Go
  rw [sIf_s]
  cases c ρ with
  | none => simp
  | some t => cases t <;> simp
theorem go_t (h : c ρ = some true) : Go (sIf c a b) ρ Q = Go a ρ Q := by rw [go_if, h]; simp
theorem go_f (h : c ρ = some false) : Go (sIf c a b) ρ Q = Go b ρ Q := by rw [go_if, h]; simp
/-- a test that does not hold, with nothing else to do -/
theorem Go.no (h : c ρ = some false) (k : Go b ρ Q) : Go (sSeq (sIf c a sNil) b) ρ Q := by rw [go_seq, go_f h, go_nil]; exact k
theorem fn_go {r : Res} {m : Sv} (hp : pkOk pk ds = true) (h : Go m (ds ++ List.replicate (n - ds.length) .non) (fun o => outR (some o) = some r)) : fnSem n pk m ds = some r := by
  rw [fn_s hp]
  obtain ⟨o, h1, h2⟩ := h
  rw [h1]; exact h2
theorem fn_ex {P : D → Prop} {m : Sv} (hp : pkOk pk ds = true) (h : Go m (ds ++ List.replicate (n - ds.length) .non) (fun o => ∃ d, o = .rt d ∧ P d)) : ∃ d, fnSem n pk m ds = some (.ret d) ∧ P d := by
  obtain ⟨o, h1, d, rfl, h2⟩ := h
  exact ⟨d, by rw [fn_s hp, h1]; rfl, h2⟩
/-- one turn of a loop -/
def Turn (t : Tv) (b : Sv) (R : List D → Prop) (d : D) (ρ : List D) : Prop := ∃ ρ1, t d ρ = some ρ1 ∧ Go b ρ1 fun o => ∃ ρ2, (o = .nx ρ2 ∨ o = .ct ρ2) ∧ R ρ2
theorem for_turns {α : Type} (x : α → D) (l : List α) (R : Nat → List D → Prop) (h0 : R 0 ρ) (k : ∀ i a ρ, l[i]? = some a → R i ρ → Turn t b (R (i + 1)) (x a) ρ) : ∃ ρ', forL t b (l.map x) ρ = some (.nx ρ') ∧ R l.length ρ' :=
  forL_inv x l R ρ h0 fun i a ρ hi h => by
    obtain ⟨ρ1, h1, o, h2, ρ2, h3, h4⟩ := k i a ρ hi h
    refine ⟨ρ1, ρ2, h1, ?_, h4⟩
    rcases h3 with rfl | rfl
    · exact .inl h2
    · exact .inr h2
theorem go_for {α : Type} {it : List D → Option (List D)} (x : α → D) (l : List α) (R : Nat → List D → Prop) (hit : it ρ = some (l.map x)) (h0 : R 0 ρ) (k : ∀ i a ρ, l[i]? = some a → R i ρ → Turn t b (R (i + 1)) (x a) ρ)
    (fin : ∀ ρ', R l.length ρ' → Q (.nx ρ')) : Go (sFor it t b) ρ Q := by
  obtain ⟨ρ', h1, h2⟩ := for_turns x l R h0 k
  refine ⟨_, ?_, fin ρ' h2⟩
  rw [sFor_s, hit]
  exact h1
end
end VV

/-! ## VTab -/
namespace VP
open PySem PySem.Spec PyProof.Rows L2 VV
def m__law_cell_at : Sv :=
  (sSeq (sIf (tOf (eP dLt (aCons (eVar 1) (aCons (eP dLen (aCons (eVar 0) aNil)) aNil))))
  (sRet (eP dIdx (aCons (eVar 0) (aCons (eVar 1) aNil))))
  sNil)
  (sRet (eC (.int 0))))
def f__law_cell_at : List D → Option Res := fnSem 2 [.flat, .flat] m__law_cell_at
def m__law_row : Sv :=
  (sSeq (sSet 3 (eP dDiv (aCons (eVar 0) (aCons (eC (.int 2)) aNil))))
  (sSeq (sSet 4 (eLst aNil))
  (sSeq (sSet 5 (eVar 3))
  (sSeq (sFor (iRng (aCons (eVar 1) aNil)) (gN 6)
  (sSet 5 (eP dDiv (aCons (eVar 5) (aCons (eVar 2) aNil)))))
  (sSeq (sFor (iRng (aCons (eVar 1) aNil)) (gN 6)
  (sIf (tOf (eP dGt (aCons (eVar 5) (aCons (eC (.int 0)) aNil))))
  (sSeq (sMut dPush 4 (eP dMod (aCons (eVar 3) (aCons (eVar 2) aNil))))
  (sSet 3 (eP dDiv (aCons (eVar 3) (aCons (eVar 2) aNil)))))
  (sSeq (sSet 7 (eP dMod (aCons (eP dMul (aCons (eP dAdd (aCons (eP dAdd (aCons (eP dAdd (aCons (eP dMod (aCons (eVar 3) (aCons (eC (.int 2147483629)) aNil))) (aCons (eP dMul (aCons (eC (.int 7919)) (aCons (eVar 6) aNil))) aNil))) (aCons (eP dMul (aCons (eVar 6) (aCons (eVar 6) aNil))) aNil))) (aCons (eC (.int 1)) aNil))) (aCons (eC (.int 48271)) aNil))) (aCons (eC (.int 2147483647)) aNil))))
  (sSeq (sSet 8 (eP dMod (aCons (eP dMul (aCons (eP dAdd (aCons (eVar 7) (aCons (eP dMul (aCons (eC (.int 31)) (aCons (eVar 6) aNil))) aNil))) (aCons (eC (.int 69621)) aNil))) (aCons (eC (.int 998244353)) aNil))))
  (sMut dPush 4 (eP dMod (aCons (eP dAdd (aCons (eP dMul (aCons (eVar 7) (aCons (eVar 8) aNil))) (aCons (eP dDiv (aCons (eVar 7) (aCons (eC (.int 7)) aNil))) aNil))) (aCons (eVar 2) aNil))))))))
  (sRet (eVar 4)))))))
def f__law_row : List D → Option Res := fnSem 9 [.flat, .flat, .flat] m__law_row
def m__law_entry : Sv :=
  (sSeq (sIf (tOf (eP dLt (aCons (eP dMod (aCons (eVar 0) (aCons (eC (.int 8)) aNil))) (aCons (eC (.int 3)) aNil))))
  (sRet (eC (.int 0)))
  sNil)
  (sSeq (sIf (tOf (eP dLt (aCons (eP dMod (aCons (eVar 0) (aCons (eC (.int 8)) aNil))) (aCons (eC (.int 7)) aNil))))
  (sRet (eP dSub (aCons (eP dMod (aCons (eP dDiv (aCons (eVar 0) (aCons (eC (.int 8)) aNil))) (aCons (eC (.int 21)) aNil))) (aCons (eC (.int 10)) aNil))))
  sNil)
  (sRet (eP dAdd (aCons (eP dMul (aCons (eP dSub (aCons (eP dDiv (aCons (eVar 0) (aCons (eC (.int 8)) aNil))) (aCons (eC (.int 256)) aNil))) (aCons (eC (.int 1000000000)) aNil))) (aCons (eP dDiv (aCons (eVar 0) (aCons (eC (.int 8)) aNil))) aNil))))))
def f__law_entry : List D → Option Res := fnSem 1 [.flat] m__law_entry
def m__law_table : Sv :=
  (sSeq (sSet 3 (eChk D.kidsFlat (eCall f__law_row (aCons (eVar 0) (aCons (eP dMul (aCons (eVar 1) (aCons (eVar 2) aNil))) (aCons (eC (.int 4096)) aNil))))))
  (sRet (eTup (aCons (eVar 1) (aCons (eVar 2) (aCons (eLc (iRng (aCons (eVar 1) aNil)) (gN 4) cYes (eLc (iRng (aCons (eVar 2) aNil)) (gN 5) cYes (eCall f__law_entry (aCons (eChk D.isFlat (eP dIdx (aCons (eVar 3) (aCons (eP dAdd (aCons (eP dMul (aCons (eVar 4) (aCons (eVar 2) aNil))) (aCons (eVar 5) aNil))) aNil)))) aNil)))) aNil))))))
def f__law_table : List D → Option Res := fnSem 6 [.flat, .flat, .flat] m__law_table

/-! ### numbers, sums -/
def Bn (n : Nat) (x : Int) : Prop := x.natAbs < 2 ^ n
theorem Bn.mono {n m : Nat} {x : Int} (h : Bn n x) (hm : n ≤ m) : Bn m x := Nat.lt_of_lt_of_le h (Nat.pow_le_pow_right (by decide) hm)
theorem Bn.zero {n : Nat} : Bn n 0 := Nat.two_pow_pos n
theorem Bn.cmul {n m : Nat} {x y : Int} (h : Bn n x) (h' : Bn m y) (hs : n + m ≤ 134217728) : CMulX x y := mulx_ok h h' hs

/-! ### tables as trees -/
def rowD (w : Nat) (r : Nat → Int) : D := .lst ((List.range w).map fun j => .int (r j))
def encT (h w : Nat) (f : Nat → Nat → Int) : D := .tup [.int h, .int w, .lst ((List.range h).map fun i => rowD w (f i))]
theorem toPL_map {α : Type} (x : α → D) : ∀ l : List α, D.toPL (l.map x) = l.map fun a => (x a).toP
  | [] => by simp [D.toPL]
  | a :: r => by simp [D.toPL, toPL_map x r]
theorem canLayAll_map {α : Type} (x : α → PyData) : ∀ l : List α, (∀ a ∈ l, (x a).canLay0 = true) → PyData.canLayAll0 (l.map x) = true
  | [], _ => by simp [PyData.canLayAll0]
  | a :: r, h => by
    simp only [List.map_cons, PyData.canLayAll0, Bool.and_eq_true]
    exact ⟨h a List.mem_cons_self, canLayAll_map x r fun b hb => h b (List.mem_cons_of_mem _ hb)⟩
theorem depthAll_map {α : Type} (x : α → PyData) (n : Nat) : ∀ l : List α, (∀ a ∈ l, (x a).depth ≤ n) → PyData.depthAll (l.map x) ≤ n
  | [], _ => by simp [PyData.depthAll]
  | a :: r, h => by
    simp only [List.map_cons, PyData.depthAll]
    exact Nat.max_le.mpr ⟨h a List.mem_cons_self, depthAll_map x n r fun b hb => h b (List.mem_cons_of_mem _ hb)⟩
/-- a tree that the look at == takes -/
def Ok (n : Nat) (d : D) : Prop := d.toP.canLay0 = true ∧ d.toP.depth ≤ n
theorem Ok.shd {n : Nat} {d : D} (h : Ok n d) (hn : n ≤ 64) : d.shd = true := by
  unfold D.shd SeqAt.shaped
  rw [Bool.and_eq_true]
  exact ⟨h.1, decide_eq_true (Nat.le_trans h.2 hn)⟩
theorem Ok.int {k : Int} : Ok 0 (.int k) := ⟨by simp [D.toP, PyData.canLay0], by simp [D.toP, PyData.depth]⟩
theorem Ok.lst {α : Type} {n : Nat} {x : α → D} {l : List α} (h : ∀ a ∈ l, Ok n (x a)) : Ok (n + 1) (.lst (l.map x)) := by
  refine ⟨?_, ?_⟩
  · simp only [D.toP, PyData.canLay0, toPL_map]
    exact canLayAll_map _ l fun a ha => (h a ha).1
  · simp only [D.toP, PyData.depth, toPL_map]
    exact Nat.succ_le_succ (depthAll_map _ n l fun a ha => (h a ha).2)
theorem Ok.tup {n : Nat} {l : List D} (h : ∀ a ∈ l, Ok n a) : Ok (n + 1) (.tup l) := by
  refine ⟨?_, ?_⟩
  · simp only [D.toP, PyData.canLay0]
    rw [← List.map_id l, toPL_map]
    exact canLayAll_map _ l fun a ha => (h a ha).1
  · simp only [D.toP, PyData.depth]
    rw [← List.map_id l, toPL_map]
    exact Nat.succ_le_succ (depthAll_map _ n l fun a ha => (h a ha).2)
@[simp] theorem dEq_int {a b : Int} : dEq [.int a, .int b] = some (.bl (a == b)) := by
  unfold dEq
  dsimp only
  rw [Ok.int.shd (by decide), Ok.int.shd (by decide)]
  simp [D.eqv, D.toP, PyData.eqv]
@[simp] theorem dNe_int {a b : Int} : dNe [.int a, .int b] = some (.bl (a != b)) := by
  unfold dNe
  dsimp only
  rw [Ok.int.shd (by decide), Ok.int.shd (by decide)]
  simp [D.eqv, D.toP, PyData.eqv, bne]

/-! ### the shared functions -/
theorem cell_ok (ns : List Int) (k : Nat) : f__law_cell_at [.scr (ns.map D.int), .int k] = some (.ret (.int (ns.getD k 0))) := by
  unfold f__law_cell_at
  rw [fn_s (by simp)]
  simp only [m__law_cell_at]
  by_cases h : k < ns.length
  · simp [sIf_s, h, atI_n]
  · simp [sIf_s, h]
end VP

/-! ## VTab2 -/
namespace VP
open PySem PySem.Spec PyProof.Rows L2 VV
theorem cm {x y : Int} (hx : x.natAbs < 2 ^ 63) (hy : y.natAbs < 2 ^ 63) : CMulX x y := Bn.cmul (n := 63) (m := 63) hx hy (by decide)
theorem cdv {x : Int} {n : Int} (h : 0 < n) (h2 : n.natAbs < 2 ^ 60) : CDivW x n := ⟨h, by
  have : n.natAbs.log2 < 60 := (Nat.log2_lt (by omega)).mpr h2
  omega⟩
theorem row_ok (cell : Int) (many base : Nat) (hm : many ≤ 1000000) (hb : 0 < base) (hb2 : base < 2 ^ 60) :
    ∃ r : List Int, f__law_row [.int cell, .int many, .int base] = some (.ret (.lst (r.map D.int))) ∧ r.length = many ∧ ∀ x ∈ r, 0 ≤ x ∧ x < base := by
  unfold f__law_row
  rw [fn_s (by simp)]
  have e0 : [D.int cell, .int many, .int base] ++ List.replicate (9 - [D.int cell, .int many, .int base].length) .non = [.int cell, .int many, .int base, .non, .non, .non, .non, .non, .non] := rfl
  rw [e0]
  have hcb : ∀ y : Int, dDiv [.int y, .int base] = some (.int (y / base)) := fun y => dDiv_s (cdv (by omega) (by omega))
  obtain ⟨ρ1, l1, R1⟩ := forL_inv (t := gN 6) (b := sSet 5 (eP dDiv (aCons (eVar 5) (aCons (eVar 2) aNil)))) (fun i : Nat => D.int i) (List.range many)
    (fun _ ρ => ∃ (y : Int) (k : D), ρ = [.int cell, .int many, .int base, .int (cell / 2), .lst [], .int y, k, .non, .non])
    [.int cell, .int many, .int base, .int (cell / 2), .lst [], .int (cell / 2), .non, .non, .non] ⟨_, _, rfl⟩
    (fun i a ρ ha hR => by
      obtain ⟨y, k, rfl⟩ := hR
      refine ⟨_, _, rfl, Or.inl ?_, ⟨y / base, .int a, rfl⟩⟩
      simp [hcb])
  obtain ⟨y1, k1, rfl⟩ := R1
  obtain ⟨ρ2, l2, R2⟩ := forL_inv (t := gN 6) (b := (sIf (tOf (eP dGt (aCons (eVar 5) (aCons (eC (.int 0)) aNil))))
  (sSeq (sMut dPush 4 (eP dMod (aCons (eVar 3) (aCons (eVar 2) aNil))))
  (sSet 3 (eP dDiv (aCons (eVar 3) (aCons (eVar 2) aNil)))))
  (sSeq (sSet 7 (eP dMod (aCons (eP dMul (aCons (eP dAdd (aCons (eP dAdd (aCons (eP dAdd (aCons (eP dMod (aCons (eVar 3) (aCons (eC (.int 2147483629)) aNil))) (aCons (eP dMul (aCons (eC (.int 7919)) (aCons (eVar 6) aNil))) aNil))) (aCons (eP dMul (aCons (eVar 6) (aCons (eVar 6) aNil))) aNil))) (aCons (eC (.int 1)) aNil))) (aCons (eC (.int 48271)) aNil))) (aCons (eC (.int 2147483647)) aNil))))
  (sSeq (sSet 8 (eP dMod (aCons (eP dMul (aCons (eP dAdd (aCons (eVar 7) (aCons (eP dMul (aCons (eC (.int 31)) (aCons (eVar 6) aNil))) aNil))) (aCons (eC (.int 69621)) aNil))) (aCons (eC (.int 998244353)) aNil))))
  (sMut dPush 4 (eP dMod (aCons (eP dAdd (aCons (eP dMul (aCons (eVar 7) (aCons (eVar 8) aNil))) (aCons (eP dDiv (aCons (eVar 7) (aCons (eC (.int 7)) aNil))) aNil))) (aCons (eVar 2) aNil)))))))) (fun i : Nat => D.int i) (List.range many)
    (fun n ρ => ∃ (z y : Int) (k a b : D) (r : List Int), ρ = [.int cell, .int many, .int base, .int z, .lst (r.map D.int), .int y, k, a, b] ∧ r.length = n ∧ ∀ x ∈ r, 0 ≤ x ∧ x < base)
    [.int cell, .int many, .int base, .int (cell / 2), .lst [], .int y1, k1, .non, .non] ⟨_, _, _, _, _, [], rfl, rfl, fun _ h => nomatch h⟩
    (fun i a ρ ha hR => by
      obtain ⟨z, y, k, a1, b1, r, rfl, hl, hr⟩ := hR
      have hi : i < many := by
        have := (List.getElem?_eq_some_iff.mp ha).1
        simpa using this
      have hai : a = i := by
        have h2 := (List.getElem?_eq_some_iff.mp ha).2
        simpa using h2.symm
      subst hai
      have hlen : r.length < 1000000 := by omega
      have hpush : ∀ d : D, dPush (.lst (r.map D.int)) d = some (.lst (r.map D.int ++ [d])) := fun d => dPush_s (by simpa using hlen)
      have hmod : ∀ x : Int, 0 ≤ x % base ∧ x % base < base := fun x => ⟨Int.emod_nonneg _ (by omega), Int.emod_lt_of_pos _ (by omega)⟩
      have hmb : ∀ x : Int, dMod [.int x, .int base] = some (.int (x % base)) := fun x => dMod_s (by omega)
      by_cases hy : 0 < y
      · refine ⟨_, [.int cell, .int many, .int base, .int (z / base), .lst ((r ++ [z % base]).map D.int), .int y, .int a, a1, b1], rfl, Or.inl ?_, ⟨_, _, _, _, _, _, rfl, by simp [hl], ?_⟩⟩
        · simp [sIf_s, hy, hmb, hpush, hcb]
        · intro x hx
          rcases List.mem_append.mp hx with h | h
          · exact hr x h
          · rw [List.mem_singleton.mp h]; exact hmod _
      · have hii : ((a : Int) * a) ≤ 1000000000000 ∧ 0 ≤ (a : Int) * a := by
          have h1 : a * a ≤ 1000000 * 1000000 := Nat.mul_le_mul (by omega) (by omega)
          omega
        have hz := Int.emod_lt_of_pos z (b := 2147483629) (by decide)
        have hz0 := Int.emod_nonneg z (b := 2147483629) (by decide)
        have h1 : dMul [.int 7919, .int (a : Int)] = some (.int (7919 * a)) := dMul_s (cm (by decide) (by omega))
        have h2 : dMul [.int (a : Int), .int (a : Int)] = some (.int (a * a)) := dMul_s (cm (by omega) (by omega))
        obtain ⟨u, hu⟩ : ∃ u : Int, u = z % 2147483629 + 7919 * a + a * a + 1 := ⟨_, rfl⟩
        have h3 : dMul [.int u, .int 48271] = some (.int (u * 48271)) := dMul_s (cm (by omega) (by decide))
        obtain ⟨v, hv⟩ : ∃ v : Int, v = u * 48271 % 2147483647 := ⟨_, rfl⟩
        have hv1 := Int.emod_lt_of_pos (u * 48271) (b := 2147483647) (by decide)
        have hv0 := Int.emod_nonneg (u * 48271) (b := 2147483647) (by decide)
        have h4 : dMul [.int 31, .int (a : Int)] = some (.int (31 * a)) := dMul_s (cm (by decide) (by omega))
        have h5 : dMul [.int (v + 31 * a), .int 69621] = some (.int ((v + 31 * a) * 69621)) := dMul_s (cm (by omega) (by decide))
        obtain ⟨w, hw⟩ : ∃ w : Int, w = (v + 31 * a) * 69621 % 998244353 := ⟨_, rfl⟩
        have hw1 := Int.emod_lt_of_pos ((v + 31 * a) * 69621) (b := 998244353) (by decide)
        have hw0 := Int.emod_nonneg ((v + 31 * a) * 69621) (b := 998244353) (by decide)
        have h6 : dMul [.int v, .int w] = some (.int (v * w)) := dMul_s (cm (by omega) (by omega))
        have h7 : dDiv [.int v, .int 7] = some (.int (v / 7)) := dDiv_s (cdv (by decide) (by decide))
        refine ⟨_, [.int cell, .int many, .int base, .int z, .lst ((r ++ [(v * w + v / 7) % base]).map D.int), .int y, .int a, .int v, .int w], rfl, Or.inl ?_, ⟨_, _, _, _, _, _, rfl, by simp [hl], ?_⟩⟩
        · simp [sIf_s, hy, h1, h2, ← hu, h3, ← hv, h4, h5, ← hw, h6, h7, hmb, hpush]
        · intro x hx
          rcases List.mem_append.mp hx with h | h
          · exact hr x h
          · rw [List.mem_singleton.mp h]; exact hmod _)
  obtain ⟨z, y, k, a, b, r, rfl, hl, hr⟩ := R2
  refine ⟨r, ?_, by simpa using hl, hr⟩
  have h2 : dDiv [.int cell, .int 2] = some (.int (cell / 2)) := dDiv_s (cdv (by decide) (by decide))
  have hit : ∀ ρ : List D, ρ[1]? = some (.int many) → iRng (aCons (eVar 1) aNil) ρ = some ((List.range many).map fun i : Nat => D.int i) := fun ρ h => by
    rw [iRng1_s (k := many) (by simp [h]) (by omega) (by omega), rng0]
    simp
  simp [m__law_row, h2, hit, l1, l2]
theorem entry_ok (x : Int) (h0 : 0 ≤ x) (h1 : x < 4096) : ∃ e : Int, f__law_entry [.int x] = some (.ret (.int e)) ∧ Bn 40 e := by
  unfold f__law_entry
  rw [fn_s (by simp)]
  unfold m__law_entry
  have h8 : dDiv [.int x, .int 8] = some (.int (x / 8)) := dDiv_s (cdv (by decide) (by decide))
  by_cases c1 : x % 8 < 3
  · exact ⟨0, by simp [sIf_s, c1], Bn.zero⟩
  · by_cases c2 : x % 8 < 7
    · refine ⟨x / 8 % 21 - 10, by simp [sIf_s, c1, c2, h8], ?_⟩
      unfold Bn
      omega
    · have hm : dMul [.int (x / 8 - 256), .int 1000000000] = some (.int ((x / 8 - 256) * 1000000000)) := dMul_s (cm (by omega) (by decide))
      refine ⟨(x / 8 - 256) * 1000000000 + x / 8, by simp [sIf_s, c1, c2, h8, hm], ?_⟩
      unfold Bn
      omega
end VP

/-! ## VTab3 -/
namespace VP
open PySem PySem.Spec PyProof.Rows L2 VV
/-- a range made of numbers from nought, at place i of the frame, and what is made of it -/
theorem lcR {n i : Nat} {e : Ev} {ρ : List D} (y : Nat → D) (h : ∀ a, a < n → e (ρ.set i (.int (a : Nat))) = some (y a)) :
    lcL (gN i) cYes e ρ ((List.range n).map fun i : Nat => D.int i) = some ((List.range n).map y) :=
  lcL_map (fun i : Nat => D.int i) y _ fun a ha => ⟨_, gN_s, cYes_s, h a (List.mem_range.mp ha)⟩
theorem iR {n : Nat} {e : Ev} {ρ : List D} (h : e ρ = some (.int n)) (hn : n ≤ 1000000) : iRng (aCons e aNil) ρ = some ((List.range n).map fun i : Nat => D.int i) := by
  rw [iRng1_s (k := n) (by simp [h]) (by omega) (by omega), rng0]
  simp
theorem table_ok (cell : Int) (h w : Nat) (hh : h ≤ 1000) (hw : w ≤ 1000) : ∃ f : Nat → Nat → Int, f__law_table [.int cell, .int h, .int w] = some (.ret (encT h w f)) ∧ ∀ i j, i < h → j < w → Bn 40 (f i j) := by
  have hwh : h * w ≤ 1000 * 1000 := Nat.mul_le_mul hh hw
  obtain ⟨r, hr, hl, hb⟩ := row_ok cell (h * w) 4096 (by omega) (by omega) (by decide)
  have hx : ∀ i j, i < h → j < w → ∃ x, r[i * w + j]? = some x ∧ 0 ≤ x ∧ x < 4096 := by
    intro i j hi hj
    have : i * w + j < h * w := by
      have : (i + 1) * w ≤ h * w := Nat.mul_le_mul_right _ hi
      rw [Nat.succ_mul] at this
      omega
    exact ⟨r[i * w + j], List.getElem?_eq_getElem (by omega), hb _ (List.getElem_mem _)⟩
  have hf : ∀ i j, ∃ e : Int, i < h → j < w → ∃ x, r[i * w + j]? = some x ∧ f__law_entry [.int x] = some (.ret (.int e)) ∧ Bn 40 e := by
    intro i j
    by_cases hij : i < h ∧ j < w
    · obtain ⟨x, h1, h2, h3⟩ := hx i j hij.1 hij.2
      obtain ⟨e, h4, h5⟩ := entry_ok x h2 h3
      exact ⟨e, fun _ _ => ⟨x, h1, h4, h5⟩⟩
    · exact ⟨0, fun a b => absurd ⟨a, b⟩ hij⟩
  refine ⟨fun i j => (hf i j).choose, ?_, fun i j hi hj => ?_⟩
  · generalize hg : (fun i j => (hf i j).choose) = g
    have hgs : ∀ i j, i < h → j < w → ∃ x, r[i * w + j]? = some x ∧ f__law_entry [.int x] = some (.ret (.int (g i j))) := by
      intro i j hi hj
      obtain ⟨x, h1, h2, _⟩ := (hf i j).choose_spec hi hj
      exact ⟨x, h1, by rw [← hg]; exact h2⟩
    unfold f__law_table
    rw [fn_s (by simp)]
    have e0 : [D.int cell, .int h, .int w] ++ List.replicate (6 - [D.int cell, .int h, .int w].length) .non = [.int cell, .int h, .int w, .non, .non, .non] := rfl
    rw [e0]
    have hm : dMul [.int (h : Int), .int (w : Int)] = some (.int ((h * w : Nat) : Int)) := by
      rw [dMul_s (cm (by omega) (by omega))]; simp
    have hr' : f__law_row [.int cell, .int ((h : Int) * w), .int 4096] = some (.ret (.lst (r.map D.int))) := by
      have := hr
      simp only [Int.natCast_mul] at this
      exact this
    have e := lcR (n := h) (i := 4) (ρ := [.int cell, .int h, .int w, .lst (r.map D.int), .non, .non]) (e := eLc (iRng (aCons (eVar 2) aNil)) (gN 5) cYes (eCall f__law_entry (aCons (eChk D.isFlat (eP dIdx (aCons (eVar 3) (aCons (eP dAdd (aCons (eP dMul (aCons (eVar 4) (aCons (eVar 2) aNil))) (aCons (eVar 5) aNil))) aNil)))) aNil))) (fun i => rowD w (g i)) fun a ha => by
      have e := lcR (n := w) (i := 5) (ρ := [.int cell, .int h, .int w, .lst (r.map D.int), .int a, .non]) (e := eCall f__law_entry (aCons (eChk D.isFlat (eP dIdx (aCons (eVar 3) (aCons (eP dAdd (aCons (eP dMul (aCons (eVar 4) (aCons (eVar 2) aNil))) (aCons (eVar 5) aNil))) aNil)))) aNil)) (fun j => .int (g a j)) fun b hb => by
        obtain ⟨x, h1, h2⟩ := hgs a b ha hb
        have hm : dMul [.int (a : Int), .int (w : Int)] = some (.int ((a : Int) * w)) := dMul_s (cm (by omega) (by omega))
        have hat : atI (r.map D.int) ((a : Int) * w + b) = some (.int x) := by
          rw [atI_of (k := a * w + b) (by simp), List.getElem?_map, h1]; rfl
        simp [hm, hat, h2, Option.filter_some]
      simp only [eLc_s, List.set_cons_succ, List.set_cons_zero]
      rw [iR (n := w) rfl (by omega), ob_some, e]
      rfl
    unfold m__law_table
    simp only [sSeq_s, sSet_s, eChk_s, eCall_s, eP_s, aCons_s, eVar_s, eC_s, aNil_s, ob_some, List.getElem?_cons_zero, List.getElem?_cons_succ, hm, Int.natCast_mul, hr', asRet_s, Option.filter_some, kf_lst, flL_ints, if_true, seqO_nx, List.set_cons_succ, List.set_cons_zero, sRet_s, eTup_s, eLc_s]
    rw [iR (n := h) rfl (by omega), ob_some, e]
    simp [encT]
  · exact ((hf i j).choose_spec hi hj).choose_spec.2.2
end VP

/-! ## VTab4 -/
namespace VP
open PySem PySem.Spec PyProof.Rows L2 VV
theorem rep_row (d : Nat) (hd : d ≤ 1000000) : dRep [.lst [.int 0], .int d] = some (rowD d fun _ => 0) := by
  have row : ∀ w : Nat, rowD w (fun _ => 0) = .lst (List.replicate w [D.int 0]).flatten := by
    intro w
    unfold rowD
    rw [List.map_const', List.length_range]
    congr 1
    induction w with
    | zero => rfl
    | succ w ih => rw [List.replicate_succ, List.replicate_succ, List.flatten_cons, ih]; rfl
  unfold dRep
  dsimp only
  rw [if_pos ⟨by simp, by omega, by omega, by simp; omega⟩, row, Int.toNat_natCast]
end VP

/-! ## VTab5 -/
namespace VP
open PySem PySem.Spec PyProof.Rows L2 VV
end VP

/-! ## VExc -/
namespace VV
open PySem PySem.Spec PyProof.Rows L2

/-! ### own exception classes -/
/-- a class over ValueError, without an __init__ of its own -/
structure ExF (K : PySem.W.Frag) (C : Addr) : Prop where
  q : PySem.W.excIn K C He.veBase "ValueError.__new__" = true
  kp : PySem.W.keepIn K (.ref C) = true
  sb : PySem.W.subIn K (.ref C) (.type "BaseException") = some true
  tp : PySem.W.typeIn K (.ref C) = some (.type "type")
def sRaise (c : Str) : Sv := fun ρ => some (.ex c ρ)
section
variable {X : Cx} {W : L2.WX} {sc : Sc} {Γ Γ' : List Kd} {pos : Pos}
end

/-! ### defs that may raise -/
section
variable {P : Program} {w : World} {K : PySem.W.Frag} {mg : Str → Option Value} {base : Heap} {x qual : Str} {params : Arguments} {body : List Stmt} {scope : Scope} {f : Addr} {fd : FuncData}
end

/-! ### expressions that may raise, as a statement's own -/
section
variable {X : Cx} {W : L2.WX} {LL : List Nat} {Γ : List Kd} {pos p : Pos} {k : Nat} {ps : List Str} {sem : List D → Option Res} {R : Rm} {x : Str}
end

/-! ### statements of such expressions -/
section
variable {X : Cx} {W : L2.WX} {sc : Sc} {Γ Γ' : List Kd} {pos : Pos}
end
end VV

/-! ## VExc2 -/
namespace VV
open PySem PySem.Spec PyProof.Rows L2

/-! ### the program's exception classes -/
def six : List Str := ["NoTable", "NoPlace", "NoMove", "NoWord", "NoText", "TooMany"]
/-- whether an exception of the class c is one of the class y -/
def subX (c y : Str) : Option Bool := if y = c ∨ y = "CordError" ∨ y = "ValueError" then some true else if y ∈ six then some false else none
structure ExW (K : PySem.W.Frag) (mg : Str → Option Value) (L : List Str) : Prop where
  i : ∀ c C, c ∈ L → mg c = some (.ref C) → ExcC K C
  k : ∀ c C y u b, c ∈ L → mg c = some (.ref C) → subX c y = some b → (mg y = some u ∨ (mg y = none ∧ bootBuiltins y = some u)) → PySem.W.kitOne K (.ref C) u = some b
  m : ∀ c C y D b, c ∈ L → mg c = some (.ref C) → subX c y = some b → mg y = some (.ref D) → PySem.W.exmOne K (.ref C) (.ref D) = some b

/-! ### isinstance(e, X), isinstance(e, (X, ..)) of the exception that is handled -/

section
variable {X : Cx} {L : List Str} {LL : List Nat} {Γ : List Kd} {a : Addr} {oe : Obj} {c : Str} {C : Addr} {pos p q tp : Pos}
end
end VV

/-! ## VExc3 -/
namespace VV
open PySem PySem.Spec PyProof.Rows L2

/-! ### try: .. except Y as e: .. , what is caught is answered -/
section
variable {X : Cx} {W : L2.WX} {sc : Sc} {Γ Γ' : List Kd} {pos pos' np : Pos} {L : List Str}
end

/-! ### defs of an exception, asked in a suite -/
section
variable {P : Program} {w : World} {K : PySem.W.Frag} {mg : Str → Option Value} {base : Heap} {x qual px : Str} {params : Arguments} {body : List Stmt} {scope : Scope} {f : Addr} {fd : FuncData} {L : List Str}
end
section
variable {X : Cx} {L : List Str} {LL : List Nat} {Γ : List Kd} {a : Addr} {oe : Obj} {c : Str} {C : Addr} {pos p tp : Pos}
end

end VV

/-! ## VHead -/
namespace VV
open PySem PySem.Spec PyProof.Rows L2 He

/-! ### a head with exception classes -/
section
variable {K : PySem.W.Frag} {h : Heap} {mg : Str → Option Value} {L : List Str}
end
/-! ### the Hook, with a further look at the written part -/
def obsV (ck : PySem.W.Frag → Bool) (fa : List Fa) (fn : List DefD) (K : PySem.W.Frag) : AlD := ((obsD fa fn K).1 && ck K, (obsD fa fn K).2)
def SaysV (ck : PySem.W.Frag → Bool) (fa : List Fa) (fn : List DefD) (K : PySem.W.Frag) : Prop := obsV ck fa fn K = valD fn
theorem SaysV.d {ck : PySem.W.Frag → Bool} {fa : List Fa} {fn : List DefD} {K : PySem.W.Frag} (c : SaysV ck fa fn K) : SaysD fa fn K ∧ ck K = true := by
  unfold SaysV obsV valD at c
  have c1 := congrArg Prod.fst c
  have c2 := congrArg Prod.snd c
  dsimp only at c1 c2
  rw [Bool.and_eq_true] at c1
  exact ⟨Prod.ext c1.1 c2, c1.2⟩
end VV

/-! ## VMore -/
namespace VV
open PySem PySem.Spec PyProof.Rows L2

/-! ### x in xs, xs a list or a tuple of data -/
section
variable {X : Cx}
end
section
variable {X : Cx} {LL : List Nat} {Γ : List Kd} {pos : Pos} {a b : Expr} {sa sb : Ev} {ma mb : Md}
end

/-! ### list(range(n)) -/
section
variable {X : Cx} {LL : List Nat} {Γ : List Kd} {pos p p2 q : Pos} {a b : Expr} {sa sb : Ev} {ma mb : Md}
end

/-! ### sorted(xs), xs a list of data -/
section
variable {X : Cx} {LL : List Nat} {Γ : List Kd} {pos p : Pos} {a : Expr} {sa : Ev} {ma : Md}
end
end VV

/-! ## VSet -/
/-! set(xs) of a list of whole numbers: its members, its order -/
namespace VV
open PySem PySem.Spec PyProof.Rows L2
section
variable {P : Program} {w : World} {A : Around} {E : Value → Shared → Prop} {s : Shared}
end

/-! ### sorted, without the same twice -/
section
variable {X : Cx}
end
section
variable {X : Cx} {LL : List Nat} {Γ : List Kd} {pos p p2 q : Pos} {a : Expr} {sa : Ev} {ma : Md}
end
end VV

/-! ## VMut2 -/
/-! more changes of one object: extend, pop within append, two stores, d.setdefault(k, []).append(v); sorted(d), t * n -/
namespace VV
open PySem PySem.Spec PyProof.Rows L2


/-! ### x.extend(a list of flat things) -/
section
variable {X : Cx} {W : L2.WX} {sc : Sc} {Γ : List Kd} {pos : Pos}

/-! ### x.append(y.pop(e)), of flat things -/

/-! ### x[a], y[b] = a pair of flat things -/

/-! ### t * n, sorted(d) -/
end
section
variable {X : Cx} {LL : List Nat} {Γ : List Kd} {pos p : Pos} {a b : Expr} {sa sb : Ev} {ma mb : Md}
end
end VV

/-! ## VMul -/
/-! t * n of a tuple of flat things, n from 0 on -/
namespace VV
open PySem PySem.Spec PyProof.Rows L2
section
variable {X : Cx}
variable {LL : List Nat} {Γ : List Kd} {pos p : Pos} {a b : Expr} {sa sb : Ev} {ma mb : Md}
end
end VV

/-! ## VSetApp -/
/-! d.setdefault(k, []).append(v), v flat -/
namespace VV
open PySem PySem.Spec PyProof.Rows L2
def killL (ns : List Nat) (Γ : List Kd) : List Kd := Γ.map fun k => if ns.any (fun n => k.has n) then .dead else k
section
variable {mg : Mg} {P : Fm} {g : Addr → Nat} {H : Hp}
theorem Cells.weak : ∀ {Γ Γ' : List Kd} {ρ : List D} {σ : L2.St}, Cells mg P g H Γ ρ σ → Γ'.length = Γ.length → (∀ j : Nat, Γ'[j]? = Γ[j]? ∨ Γ'[j]? = some Kd.dead) → Cells mg P g H Γ' ρ σ
  | [], [], [], [], _, _, _ => trivial
  | k :: Γ, k' :: Γ', _ :: _, _ :: _, h, hl, hw => by
    refine ⟨?_, Cells.weak h.2 (by simpa using hl) fun j => by simpa using hw (j + 1)⟩
    rcases hw 0 with e | e
    · simp at e; subst e; exact h.1
    · simp at e; subst e; trivial
  | [], _ :: _, _, _, _, hl, _ => by simp at hl
  | _ :: _, [], _, _, _, hl, _ => by simp at hl
  | [], [], _ :: _, _, h, _, _ => h.elim
  | [], [], [], _ :: _, h, _, _ => h.elim
  | _ :: _, _ :: _, [], _, h, _, _ => h.elim
  | _ :: _, _ :: _, _ :: _, [], h, _, _ => h.elim
theorem Cells.killK {n : Nat} : ∀ {Γ : List Kd} {ρ : List D} {σ : L2.St}, Cells mg P g H Γ ρ σ → Cells mg P g H (VV.killK n Γ) ρ σ
  | [], [], [], _ => trivial
  | k :: _, _ :: _, _ :: _, h => by
    refine ⟨?_, Cells.killK h.2⟩
    show CellOk mg P g H (if k.has n then .dead else k) _ _
    split
    · trivial
    · exact h.1
  | [], _ :: _, _, h => h.elim
  | [], [], _ :: _, h => h.elim
  | _ :: _, [], _, h => h.elim
  | _ :: _, _ :: _, [], h => h.elim
end
section
variable {X : Cx} {W : L2.WX} {sc : Sc} {Γ : List Kd} {pos : Pos}
end
end VV

/-! ## VLenD -/
/-! len of a dict with keys that are ints or texts -/
namespace VV
open PySem PySem.Spec PyProof.Rows L2
section
variable {X : Cx}
end
end VV

/-! ## VZip -/
/-! zip(a list, a tuple of flat things) -/
namespace VV
open PySem PySem.Spec PyProof.Rows L2
section
variable {X : Cx} {LL : List Nat} {Γ : List Kd} {pos p tpos : Pos} {a b : Expr} {sa sb : Ev} {ma : Md} {elts : List Expr} {kk : Nat}
end
end VV

/-! ## VDVals -/
/-! [d[k] for k in sorted(d)]: the values of a dict, each once -/
namespace VV
open PySem PySem.Spec PyProof.Rows L2
/-- key, tree, value, nodes -/
structure Row where
  k : Int
  d : D
  v : V
  f : List Addr
section
variable {mg : Mg} {H : Hp}
end
section
variable {X : Cx} {LL : List Nat} {Γ Γ1 : List Kd} {pos p : Pos}
end
end VV

/-! ## VEach -/
/-! for x in l: x.append(c) (lists that are unlike objects); l[i].clear() -/
namespace VV
open PySem PySem.Spec PyProof.Rows L2
section
variable {mg : Mg} {H : Hp}
end
section
variable {X : Cx} {W : L2.WX} {sc : Sc} {Γ : List Kd} {pos : Pos}
end
end VV

/-! ## VAnyH -/
/-! any(list) while an exception is handled -/
namespace VV
open PySem PySem.Spec PyProof.Rows L2 HotX
section
variable {prog : Program} {w : World} {A : Around} {E : Value → Shared → Prop} {s : Shared}
end
section
variable {X : Cx}
end
end VV

/-! ## VCompK -/
/-! [e for k in d if c], d the dict in a slot -/
namespace VV
open PySem PySem.Spec PyProof.Rows L2
section
variable {X : Cx} {LL : List Nat} {Γ Γ1 : List Kd} {pos : Pos}
end
end VV

/-! ## VBits -/
/-! 1 << n, n >> k, n & 1; a list extended by a tuple; a number's name in the module -/
namespace VV
open PySem PySem.Spec PyProof.Rows L2
def CNn (_ j : Int) : Prop := 0 ≤ j
instance : DecidableRel CNn := fun _ j => inferInstanceAs (Decidable (0 ≤ j))
section
variable {X : Cx} {LL : List Nat} {Γ : List Kd} {pos : Pos} {a b : Expr} {sa sb : Ev} {ma mb : Md}
end
/-! ### x.extend(t) -/

section
variable {X : Cx} {W : L2.WX} {sc : Sc} {Γ : List Kd} {pos : Pos}
end
end VV

/-! ## VSumT -/
/-! sum(tuple of whole numbers) -/
namespace VV
open PySem PySem.Spec PyProof.Rows L2
section
variable {prog : Program} {w : World} {A : Around} {E : Value → Shared → Prop} {s : Shared} {l : Addr} {its : List Value} {ns : List Int} {Q : Value → Shared → Prop}
end
section
variable {X : Cx}
end
end VV

/-! ## VText -/
/-! texts: str(whole number), text + text, sep.join(list of texts) -/
namespace VV
open PySem PySem.Spec PyProof.Rows L2
section
variable {X : Cx} {LL : List Nat} {Γ : List Kd} {pos apos : Pos} {a b : Expr} {sa sb : Ev} {ma mb : Md}
end
end VV

/-! ## VSortT -/
/-! sorted(a dict whose keys are tuples of whole numbers and texts) -/
namespace VV
open PySem PySem.Spec PyProof.Rows L2

section
variable {X : Cx} {LL : List Nat} {Γ : List Kd} {pos p : Pos} {a : Expr} {sa : Ev} {ma : Md}
end
end VV

/-! ## VEqT -/
/-! == of dicts whose keys are tuples; a dict == {} -/
namespace VV
open PySem PySem.Spec PyProof.Rows L2
section
variable {prog : Program} {w : World} {K : Type} [DecidableEq K] {knd : HeapKind prog w K} {A : Around} {E : Value → Shared → Prop} {s : Shared}
end
section
variable {X : Cx} {pins : List (Addr × Obj)} {σ : L2.St} {H : Hp} {s : Shared}
end

/-! ### as trees -/
section
variable {mg : Mg} {H : Hp}
end
section
variable {X : Cx} {LL : List Nat} {Γ : List Kd} {pos : Pos} {a b : Expr} {sa sb : Ev} {ma mb : Md}
end
end VV

/-! ## VKti -/
/-! tuples of whole numbers that are known to the object: made by tuple(list), count, index, len, sum, in, slices, zip -/
namespace VV
open PySem PySem.Spec PyProof.Rows L2
section
variable {X : Cx} {LL : List Nat} {Γ : List Kd} {pos p p2 apos : Pos} {a b e : Expr} {sa sb se : Ev} {ma mb m : Md} {lo hi : Option Expr} {sl sh : List D → Option (Option Int)}
end
end VV

/-! ## VNk -/
/-! dicts whose keys are tuples of whole numbers, truths and such tuples: at the level of tracked heaps -/
namespace VV
open PySem PySem.Spec PyProof.Rows L2
section
variable {X : Cx} {pins : List (Addr × Obj)} {σ : L2.St} {H : Hp} {s : Shared}
variable {A : Around} {E : Value → Shared → Prop} {a b : Addr} {xs : List Ne} {k : NestedKey} {v : V}
/-! ### rules -/
end
section
variable {X : Cx} {o i e value : Expr} {pos pos' : Pos} {td ty tv tx : TE}
end
end VV

/-! ## VNkD -/
/-! dicts of nested keys, as trees -/
namespace VV
open PySem PySem.Spec PyProof.Rows L2
/-- a tuple as a key -/
def D.nkT : D → Option NestedKey
  | .tup l => ((D.nkL l).map NestedKey.tup).filter fun k => decide (k.depth ≤ 8)
  | .kti l => some (.tup (l.map .num))
  | _ => none
section
variable {X : Cx} {LL : List Nat} {Γ : List Kd} {pos apos cpos : Pos} {a b c : Expr} {sa sb s2 : Ev} {ma mb : Md}
end
section
variable {X : Cx} {W : L2.WX} {sc : Sc} {Γ : List Kd} {pos : Pos}
end
end VV

/-! ## VNkF -/
/-! the walk over a dict of nested keys -/
namespace VV
open PySem PySem.Spec PyProof.Rows L2
section
variable {X : Cx} {pins : List (Addr × Obj)} {σ : L2.St} {H : Hp} {s : Shared} {a : Addr} {o : Obj} {xs : List Ne}
end
section
variable {P : Program} {w : World} {K : PySem.W.Frag} {tg : Expr} {a : Addr} {o : Obj} {es : Array DictEntry} {ep : Nat}
end
section
variable {mg : Mg} {P : Fm} {LL : List Nat} {g : Addr → Nat} {H : Hp} {a : Addr} {u : HO} {od : Obj}
end
section
variable {X : Cx} {W : L2.WX} {sc : Sc} {Γ Γ1 : List Kd} {pos : Pos}
end
end VV

/-! ## VPar -/
/-! a, b = x, y: two local names, flat things -/
namespace VV
open PySem PySem.Spec PyProof.Rows L2
def sPar (i j : Nat) (a : List D → Option (List D)) : Sv := fun ρ => match a ρ with
  | some [d, e] => some (.nx ((ρ.set i d).set j e))
  | _ => none
section
variable {X : Cx} {W : L2.WX} {sc : Sc} {Γ : List Kd} {pos : Pos}
theorem sx_par {i j : Nat} {x y : Str} {a b : Expr} {sem : List D → Option (List D)} {px py pt : Pos} {kt k2 pt2} (hc : X.calm = true) (hN : X.N.Nodup) (hi : X.N[i]? = some x) (hj : X.N[j]? = some y)
    (hx : X.env.scope.names.lookup x = some .local) (hy : X.env.scope.names.lookup y = some .local) (ha : EA X sc.LL Γ [a, b] sem .flat) (hij : i ≠ j := by decide)
    (hw : swappedStores [.Tuple [.Name x px, .Name y py] kt pt] (.Tuple [a, b] k2 pt2) X.env = pure (some [x, y]) := by rfl)
    (hs : swapsWithSole [.Tuple [.Name x px, .Name y py] kt pt] (.Tuple [a, b] k2 pt2) pos.line X.env = pure false := by rfl) :
    SX X W sc Γ (.Assign [.Tuple [.Name x px, .Name y py] kt pt] (.Tuple [a, b] k2 pt2) pos) (sPar i j sem) ((Γ.set i .flat).set j .flat) := by
  obtain ⟨_, t, p, k⟩ := ha
  refine ⟨_, ps_par hc hN hi hj hij hx hy p hw hs, fun P g ρ σ H o D s e w => ?_⟩
  unfold sPar at e
  split at e
  · rename_i d1 d2 e1
    cases e
    refine k P g ρ σ H _ _ s e1 fun vs H' xx vl => ?_
    obtain ⟨fp, r, rfl⟩ := vl
    obtain ⟨v, u, f1, f2, rfl, h1, h2, ef⟩ := repL2 r
    have ef := ef.symm
    simp only [List.append_eq_nil_iff] at ef
    obtain ⟨rfl, rfl⟩ := ef
    refine ⟨v, u, rfl, ?_⟩
    have st : Sta X.vm P sc.LL Γ (relab g H H' .non 1 1) ρ σ H' := s.relab xx
    exact w (relab g H H' .non 1 1) _ H' (Step.relab xx) ⟨st.loc, Cells.set (k := .flat) j (Cells.set (k := .flat) i st.cells ⟨v, rfl, h1⟩) ⟨u, rfl, h2⟩⟩
  · cases e
end
end VV

/-! ## VSortB -/
/-! sorted(a dict of whole keys), of any number of keys -/
namespace VV
open PySem PySem.Spec PyProof.Rows L2
section
variable {X : Cx} {LL : List Nat} {Γ : List Kd} {pos p : Pos} {a : Expr} {sa : Ev} {ma : Md}
end
end VV

/-! ## VCompN -/
/-! [e for k in d if c], d the dict of nested keys in a slot -/
namespace VV
open PySem PySem.Spec PyProof.Rows L2
section
variable {X : Cx} {LL : List Nat} {Γ Γ1 : List Kd} {pos : Pos}
end
end VV

/-! ## VCst -/
/-! what is never reached; the module's tuples of texts; l.count(x), l.index(x) of data; l.clear() -/
namespace VV
open PySem PySem.Spec PyProof.Rows L2
/-! ### never reached -/
section
variable {X : Cx} {W : L2.WX} {sc : Sc} {LL : List Nat} {Γ Γ' : List Kd}
end
/-! ### the module's tuples of texts -/
section
variable {X : Cx} {LL : List Nat} {Γ : List Kd} {pos p : Pos} {a : Expr} {sa : Ev} {ma : Md} {x : Str} {L : List Str}
end
/-! ### l.count(x), l.index(x) -/
section
variable {X : Cx}
end
section
variable {X : Cx} {LL : List Nat} {Γ : List Kd} {pos ap : Pos} {a b : Expr} {sa sb : Ev} {ma mb : Md}
end
/-! ### l.clear() -/
section
variable {X : Cx} {W : L2.WX} {sc : Sc} {Γ : List Kd} {pos : Pos}
end
end VV

/-! ### the head, with such tuples -/
namespace VV
open PySem PySem.Spec PyProof.Rows L2 He
section
variable {K : PySem.W.Frag} {h : Heap} {mg : Str → Option Value} {L : List Str} {ts : List (Str × List Str)}
end
end VV

/-! ## VEqN -/
/-! == and != of dicts of nested keys that are alike; slices and sums of known tuples -/
namespace VV
open PySem PySem.Spec PyProof.Rows L2
section
variable {X : Cx} {pins : List (Addr × Obj)} {σ : L2.St} {H : Hp} {s : Shared}
end
section
variable {mg : Mg} {H : Hp}
end
section
variable {X : Cx} {LL : List Nat} {Γ : List Kd} {pos p p2 apos : Pos} {a b e : Expr} {sa sb se : Ev} {ma mb m : Md} {lo hi : Option Expr} {sl sh : List D → Option (Option Int)}
/-! ### a part of a tuple of whole numbers, not the whole: a new object, known -/
/-! ### isinstance of a dict of nested keys -/
end
end VV

/-! ## VKt2 -/
/-! more of known tuples: displays, sums, places -/
namespace VV
open PySem PySem.Spec PyProof.Rows L2
section
variable {X : Cx} {pos : Pos} {es : List Expr} {t : TA}
end
section
variable {X : Cx} {LL : List Nat} {Γ : List Kd} {pos : Pos} {a b : Expr} {sa sb : Ev} {ma mb : Md}
end
end VV

/-! ## VPut2 -/
/-! x[i][j] = e, a flat thing into a list of lists -/
namespace VV
open PySem PySem.Spec PyProof.Rows L2
section
variable {X : Cx} {W : L2.WX} {sc : Sc} {Γ : List Kd} {pos : Pos}
end
end VV

/-! ## VDrop -/
/-! a call as a statement; a list within a tuple gets one thing more, the name is not read again -/
namespace VV
open PySem PySem.Spec PyProof.Rows L2
section
variable {X : Cx} {W : L2.WX} {sc : Sc} {Γ : List Kd} {pos : Pos}
end
end VV

/-! ## VSort1 -/
/-! sorted(list), one thing or none, too -/
namespace VV
open PySem PySem.Spec PyProof.Rows L2
section
variable {X : Cx} {LL : List Nat} {Γ : List Kd} {pos p : Pos} {a : Expr} {sa : Ev} {ma : Md}
end
end VV

/-! ## VLstT -/
/-! list(d) of a dict whose keys are tuples -/
namespace VV
open PySem PySem.Spec PyProof.Rows L2
section
variable {X : Cx} {LL : List Nat} {Γ : List Kd} {pos p : Pos} {a : Expr} {sa : Ev} {ma : Md}
end
end VV

/-! ## VSetT -/
/-! d.setdefault(k, x), k a tuple: at the level of tracked heaps -/
namespace VV
open PySem PySem.Spec PyProof.Rows L2
section
variable {X : Cx} {pins : List (Addr × Obj)} {σ : L2.St} {H : Hp} {s : Shared} {a b : Addr} {r : Value} {d : V} {k : List L2.Key} {A : Around} {E : Value → Shared → Prop}
end
section
variable {X : Cx} {o e f : Expr} {td ty tx : TE} {apos cpos : Pos}
end
end VV

/-! ## VSetAT -/
/-! d.setdefault(k, []).append(flat), k a tuple of whole numbers and texts -/
namespace VV
open PySem PySem.Spec PyProof.Rows L2
section
variable {mg : Mg} {P : Fm} {g : Addr → Nat} {H : Hp}
end
section
variable {X : Cx} {W : L2.WX} {sc : Sc} {Γ : List Kd} {pos : Pos}
end
end VV

/-! ## VStep -/
/-! l[::k] of a list of flat things -/
namespace VV
open PySem PySem.Spec PyProof.Rows L2
section
variable {X : Cx} {e st : Expr} {te ts : TE} {pos p2 : Pos}
end
section
variable {X : Cx} {LL : List Nat} {Γ : List Kd} {pos p2 : Pos} {a b : Expr} {sa sb : Ev} {ma mb : Md}
end
end VV

/-! ## VForC -/
/-! for x in f(..): the keys of a dict just told (it is locked for good: nobody else has it) -/
namespace VV
open PySem PySem.Spec PyProof.Rows L2
section
variable {X : Cx} {e : Expr} {t : TE}
end
section
variable {X : Cx} {W : L2.WX} {sc : Sc} {Γ Γ1 : List Kd} {pos : Pos}
end
section
variable {X : Cx} {W : L2.WX} {sc : Sc} {Γ Γ1 : List Kd} {pos : Pos}
end
end VV

/-! ## VDClr -/
/-! d.clear(), a dict of whole keys -/
namespace VV
open PySem PySem.Spec PyProof.Rows L2
section
variable {X : Cx} {W : L2.WX} {sc : Sc} {Γ : List Kd} {pos : Pos}
end
end VV

/-! ## VObj -/
/-! instances: an attribute read, a method called -/
namespace VV
open PySem PySem.Spec PyProof.Rows L2
section
variable {X : Cx} {LL : List Nat} {Γ : List Kd} {pos : Pos} {a : Expr} {sa : Ev} {ma : Md}
end
section
variable {X : Cx} {LL : List Nat} {Γ : List Kd} {pos apos : Pos} {k : Nat} {ps : List Str} {sem : List D → Option Res} {R : Rm} {c m : Str}
end
end VV

/-! ## VObjI -/
/-! an instance that is being made: its attributes stored and read -/
namespace VV
open PySem PySem.Spec PyProof.Rows L2
section
variable {X : Cx} {W : L2.WX} {sc : Sc} {Γ : List Kd} {LL : List Nat} {pos : Pos}
end
end VV

/-! ## VObjN -/
/-! self.f[k] = v, a dict of nested keys -/
namespace VV
open PySem PySem.Spec PyProof.Rows L2
section
variable {X : Cx} {W : L2.WX} {sc : Sc} {Γ : List Kd} {pos : Pos}
end
end VV

/-! ## VObjF -/
/-! __init__, and an instance made -/
namespace VV
open PySem PySem.Spec PyProof.Rows L2
section
variable {P : Program} {w : World} {K : PySem.W.Frag} {mg : Str → Option Value} {base : Heap} {x qual : Str} {params : Arguments} {body : List Stmt} {scope : Scope} {f : Addr} {fd : FuncData}
end
section
variable {X : Cx} {LL : List Nat} {Γ : List Kd} {pos p : Pos} {k : Nat} {ps : List Str} {sem : List D → Option D} {c : Str}
end
end VV

/-! ## VZipL -/
/-! list(zip(t, u)) of two tuples, at the library's level -/
namespace VV
open PySem PySem.Spec PyProof.Rows RZ
open PySem.Sem (wp)
/-- a zip that has handed out a tuple -/
abbrev IsZipB (h : Heap) (z TI TO q : Addr) (b : Bool) : Prop :=
  h.get? z = some { cls := .type "zip", dict := none, data := .fields #[rawInt q, .bool b, .bool false, .ref TI, .ref TO], slots := #[] }
section
variable {prog : Program} {w : World} {A : Around} {E : Value → Shared → Prop} {s : Shared}
end
end VV

/-! ## VZipC -/
/-! list(zip(t, u)) of two tuples: the loop -/
namespace VV
open PySem PySem.Spec PyProof.Rows RZ
open PySem.Sem (wp)
structure ZS (S z TI TO i1 i2 l1 l2 : Addr) (B : Nat) (xs ys : Array Value) (k : Nat) (acc : Array Value) (h : Heap) : Prop where
  tI : IsPair h TI (.ref i1) (.ref i2)
  a1 : h.IsTupleIter i1 l1 k
  a2 : h.IsTupleIter i2 l2 k
  L1 : h.IsTuple l1 xs
  L2 : h.IsTuple l2 ys
  st : (IsZip h z TI TO .none ∧ ∃ a b, IsPair h TO a b) ∨ ∃ q b oq, IsZipB h z TI TO q b ∧ h.get? q = some oq ∧ B ≤ q
  hS : ∃ c, h.get? S = some { cls := .type "list", dict := none, data := .seq acc c, slots := #[] }
  sz : B ≤ (h.objs.size : Nat)
  len : acc.size = k
  its : ∀ (j : Nat) (x y : Value), j < k → xs[j]? = some x → ys[j]? = some y → ∃ q, acc[j]? = some (.ref q) ∧ B ≤ q ∧ IsPair h q x y
  lt : ∀ (j : Nat) (q : Addr), acc[j]? = some (.ref q) → (q : Nat) < (h.objs.size : Nat)
  dis : ∀ (i j : Nat) (q : Addr), acc[i]? = some (.ref q) → acc[j]? = some (.ref q) → i = j
section
variable {prog : Program} {w : World} {A : Around} {E : Value → Shared → Prop} {s : Shared}

end
end VV

/-! ## VZipD -/
/-! list(zip(t, u)) of two tuples: the call -/
namespace VV
open PySem PySem.Spec PyProof.Rows RZ
open PySem.Sem (wp)
section
variable {prog : Program} {w : World} {A : Around} {E : Value → Shared → Prop} {s : Shared}
end
end VV

/-! ## VZipE -/
/-! list(zip(t, u)) of two tuples -/
namespace VV
open PySem PySem.Spec PyProof.Rows L2
section
variable {X : Cx} {e e2 : Expr} {ta : TA} {p p2 pos pos2 : Pos}
end
end VV

/-! ## VZipF -/
/-! list(zip(t, u)) as trees -/
namespace VV
open PySem PySem.Spec PyProof.Rows L2
section
variable {X : Cx} {LL : List Nat} {Γ : List Kd} {p p2 pos pos2 : Pos} {a b : Expr} {sem : List D → Option (List D)} {m : Md}
end
end VV

/-! ## VIdxC -/
/-! X[i], X the module's tuple of texts -/
namespace VV
open PySem PySem.Spec PyProof.Rows L2
section
variable {X : Cx} {LL : List Nat} {Γ : List Kd} {pos p : Pos} {b : Expr} {sb : Ev} {mb : Md} {x : Str} {L : List Str}
end
section
variable {X : Cx} {LL : List Nat} {Γ : List Kd} {pos apos : Pos} {k : Nat} {ps : List Str} {sem : List D → Option Res} {c m : Str}
end
section
variable {X : Cx} {W : L2.WX} {sc : Sc} {Γ : List Kd} {LL : List Nat} {pos : Pos}
end
end VV

/-! ## K01 (early) -/
namespace K01
open PySem PySem.Spec PyProof.Rows L2 VV
def top (i : Nat) : Stmt := PySem.Challenge.pw_loopcube_k01_what_is_a_table.main.body.getD i (.Pass ⟨0, 0, 0, 0⟩)
abbrev s__law_row : Stmt := top 7
abbrev s__law_entry : Stmt := top 8
abbrev s__law_table : Stmt := top 9
abbrev s__law_cell_at : Stmt := top 6
abbrev s__law_copy : Stmt := top 10
abbrev s__law_spoiled : Stmt := top 14
abbrev s__law_odd : Stmt := top 13
abbrev s_is_whole : Stmt := top 1
abbrev s_is_size : Stmt := top 2
abbrev s_is_row : Stmt := top 3
abbrev s_is_table : Stmt := top 4
abbrev s__law_whole : Stmt := top 11
abbrev s__law_is_table : Stmt := top 12
abbrev s_law : Stmt := top 15
def dd__law_row : He.DefD := ⟨("_law_row", none), "_law_row", "_law_row", defArgs s__law_row, defBody s__law_row, defScope s__law_row, [], []⟩
def dd__law_entry : He.DefD := ⟨("_law_entry", none), "_law_entry", "_law_entry", defArgs s__law_entry, defBody s__law_entry, defScope s__law_entry, [], []⟩
def dd__law_table : He.DefD := ⟨("_law_table", none), "_law_table", "_law_table", defArgs s__law_table, defBody s__law_table, defScope s__law_table, [], []⟩
def dd__law_cell_at : He.DefD := ⟨("_law_cell_at", none), "_law_cell_at", "_law_cell_at", defArgs s__law_cell_at, defBody s__law_cell_at, defScope s__law_cell_at, [], []⟩
def dd__law_copy : He.DefD := ⟨("_law_copy", none), "_law_copy", "_law_copy", defArgs s__law_copy, defBody s__law_copy, defScope s__law_copy, [], []⟩
def dd__law_spoiled : He.DefD := ⟨("_law_spoiled", none), "_law_spoiled", "_law_spoiled", defArgs s__law_spoiled, defBody s__law_spoiled, defScope s__law_spoiled, [], []⟩
def dd__law_odd : He.DefD := ⟨("_law_odd", none), "_law_odd", "_law_odd", defArgs s__law_odd, defBody s__law_odd, defScope s__law_odd, [], []⟩
def dd_is_whole : He.DefD := ⟨("is_whole", none), "is_whole", "is_whole", defArgs s_is_whole, defBody s_is_whole, defScope s_is_whole, [], []⟩
def dd_is_size : He.DefD := ⟨("is_size", none), "is_size", "is_size", defArgs s_is_size, defBody s_is_size, defScope s_is_size, [], []⟩
def dd_is_row : He.DefD := ⟨("is_row", none), "is_row", "is_row", defArgs s_is_row, defBody s_is_row, defScope s_is_row, [], []⟩
def dd_is_table : He.DefD := ⟨("is_table", none), "is_table", "is_table", defArgs s_is_table, defBody s_is_table, defScope s_is_table, [], []⟩
def dd__law_whole : He.DefD := ⟨("_law_whole", none), "_law_whole", "_law_whole", defArgs s__law_whole, defBody s__law_whole, defScope s__law_whole, [], []⟩
def dd__law_is_table : He.DefD := ⟨("_law_is_table", none), "_law_is_table", "_law_is_table", defArgs s__law_is_table, defBody s__law_is_table, defScope s__law_is_table, [], []⟩
def dd_law : He.DefD := ⟨("law", none), "law", "law", defArgs s_law, defBody s_law, defScope s_law, [], []⟩
def fnD : List He.DefD := [dd__law_row, dd__law_entry, dd__law_table, dd__law_cell_at, dd__law_copy, dd__law_spoiled, dd__law_odd, dd_is_whole, dd_is_size, dd_is_row, dd_is_table, dd__law_whole, dd__law_is_table, dd_law]
def faD : List He.Fa := [.glo "_law_row", .glo "_law_entry", .glo "_law_table", .glo "_law_cell_at", .glo "_law_copy", .glo "_law_spoiled", .glo "_law_odd", .glo "is_whole", .glo "is_size", .glo "is_row", .glo "is_table", .glo "_law_whole", .glo "_law_is_table", .glo "law", .free "all", .free "bool", .free "int", .free "isinstance", .free "len", .free "list", .free "range", .free "repr", .free "tuple"]
abbrev RR : PySem.W.OpenRow := PySem.W.OpenLaw.row PySem.Challenge.rw_loopcube_k01_what_is_a_table
abbrev hk : PySem.W.Hook := He.hookD 4 faD fnD
def ob (s : PySem.W.SharedT) : He.AlD := He.obsDG 4 faD fnD (HandSHeadRun.getT s)
theorem ob_eq (s : PySem.W.SharedT) : ob s = hk.obs s.abs := He.obsDG_eq (HandSHeadRun.getT_eq s)
theorem run (w : World) : HandSHeadRun.RunEq RR (PySem.W.view RR.prog [15]) hk ob 4000 ["is_whole", "is_size", "is_row", "is_table", "_law_cell_at", "_law_row", "_law_entry", "_law_table", "_law_copy", "_law_whole", "_law_is_table", "_law_odd", "_law_spoiled", "__name__"] w := by
  intro os
  kernel_rfl
end K01

/-! ## VNin -/
/-! x in d, x not in d (d of nested keys); b is True, b is not True -/
namespace VV
open PySem PySem.Spec PyProof.Rows L2
section
variable {X : Cx} {pins : List (Addr × Obj)} {σ : L2.St} {H : Hp} {A : Around} {E : Value → Shared → Prop} {a b : Addr} {xs : List Ne} {k : NestedKey} {s : Shared}
end
section
variable {X : Cx} {o i : Expr} {td ty : TE}
end
section
variable {X : Cx} {LL : List Nat} {Γ : List Kd} {pos : Pos} {a b : Expr} {sa sb : Ev} {ma mb : Md}
end
/-! ### b is True -/
section
variable {X : Cx}
end
section
variable {X : Cx}
end
section
variable {X : Cx} {LL : List Nat} {Γ : List Kd} {pos : Pos} {a b : Expr} {sa sb : Ev} {ma mb : Md}
end
end VV

/-! ## VForF -/
/-! the walk over an attribute, a dict of nested keys -/
namespace VV
open PySem PySem.Spec PyProof.Rows L2
section
variable {X : Cx} {W : L2.WX} {sc : Sc} {Γ Γ1 : List Kd} {pos : Pos}
end
/-! ### o.m() -/
section
variable {X : Cx} {LL : List Nat} {Γ : List Kd} {pos apos : Pos} {k : Nat} {ps : List Str} {sem : List D → Option Res} {R : Rm} {c m : Str}
end
section
variable {X : Cx} {LL : List Nat} {Γ : List Kd} {pos apos : Pos} {k : Nat} {ps : List Str} {sem : List D → Option Res} {c m : Str}
end
end VV

/-! ## VTupM -/
/-! a list within a tuple of unlike objects: cleared, one flat thing more; the tuple is read on -/
namespace VV
open PySem PySem.Spec PyProof.Rows L2
section
variable {X : Cx} {W : L2.WX} {sc : Sc} {Γ : List Kd} {pos : Pos}
end
end VV

/-! ## VPopT -/
/-! d.pop(t), t a tuple that is a key; zip of two tuples -/
namespace VV
open PySem PySem.Spec PyProof.Rows L2
open PySem.W PySem.Calls
end VV
namespace L2.DX
open PySem PySem.Spec PyProof.Rows
end L2.DX
namespace VV
open PySem PySem.Spec PyProof.Rows L2
section
variable {X : Cx} {W : L2.WX} {sc : Sc} {Γ : List Kd} {pos : Pos}
end
/-! ### zip(tuple, tuple) -/
section
variable {X : Cx} {LL : List Nat} {Γ : List Kd} {pos p tpos : Pos} {a b : Expr} {sa sb : Ev} {ma : Md} {elts : List Expr} {kk : Nat}
end
end VV

/-! ## VForT -/
/-! for x in [a, b], a and b two tuples: its two turns one after the other -/
namespace VV
open PySem PySem.Spec PyProof.Rows L2
section
variable {X : Cx} {W : L2.WX} {sc : Sc} {Γ Γ1 Γ2 : List Kd} {pos : Pos}
end
end VV

/-! ## VAsgR -/
/-! a, b = f(..), a call that may raise -/
namespace VV
open PySem PySem.Spec PyProof.Rows L2
section
variable {X : Cx} {W : L2.WX} {sc : Sc} {Γ Γ' : List Kd} {pos : Pos}
end
end VV

/-! ## VStepN -/
/-! l[::k] of a list of flat things, k other than nought -/
namespace VV
open PySem PySem.Spec PyProof.Rows L2
section
variable {X : Cx} {e st : Expr} {te ts : TE} {pos p2 : Pos}
end
section
variable {X : Cx} {LL : List Nat} {Γ : List Kd} {pos p2 : Pos} {a b : Expr} {sa sb : Ev} {ma mb : Md}
end
end VV

/-! ## VTryO -/
/-! try .. except X: without a name, a suite that returns -/
namespace VV
open PySem PySem.Spec PyProof.Rows L2
section
variable {X : Cx} {W : L2.WX} {sc : Sc} {Γ Γ' : List Kd} {pos pos' np : Pos} {L : List Str}
end
end VV

/-! ## VAnyI -/
/-! any(a list of whole numbers) -/
namespace VV
open PySem PySem.Spec PyProof.Rows L2
section
variable {X : Cx}
end
end VV

/-! ## VSlP -/
/-! x[i][a:b] = [flat things], into a list of lists of flat things -/
namespace VV
open PySem PySem.Spec PyProof.Rows L2
section
variable {X : Cx} {e lo hi : Expr} {te ta tb : TE} {pos p2 : Pos}
end
section
variable {X : Cx} {W : L2.WX} {sc : Sc} {Γ : List Kd} {pos : Pos}
end
end VV

/-! ## VErA -/
/-! f(a, g(..)): both calls may raise -/
namespace VV
open PySem PySem.Spec PyProof.Rows L2
section
variable {X : Cx} {W : L2.WX} {LL : List Nat} {Γ : List Kd} {pos p : Pos} {k : Nat} {ps : List Str} {sem : List D → Option Res} {R : Rm} {x : Str}
end
end VV

/-! ## VTry2 -/
/-! try .. except (X, Y): without a name, a suite that returns -/
namespace VV
open PySem PySem.Spec PyProof.Rows L2
section
variable {X : Cx} {x x2 : Str} {c c2 : Value} {body suite : List Stmt} {b₀ : Stmt} {np np2 tp pos pos' : Pos} {kk : Nat} {tb : L2.WX → TS} {ts : Addr → Value → Option Addr → TS} {Wout : L2.WX}
end
section
variable {X : Cx} {W : L2.WX} {sc : Sc} {Γ Γ' : List Kd} {pos pos' np np2 tp : Pos} {kk : Nat} {L : List Str}
end
end VV

/-! ## VDictP -/
/-! dict(xs) of a list of pairs: unlike whole numbers, and flat things -/
namespace VV
open PySem PySem.Spec PyProof.Rows L2
section
variable {X : Cx} {LL : List Nat} {Γ : List Kd} {pos p : Pos} {a : Expr} {sa : Ev} {ma : Md}
end
end VV

/-! ## VAsgU -/
/-! a, b, .. = a new tuple: each part by labels of its own -/
namespace VV
open PySem PySem.Spec PyProof.Rows L2
open scoped Classical
noncomputable def relF (g : Addr → Nat) (H H' : Hp) (f : Addr → Nat) : Addr → Nat := fun a => if New H H' a then f a else g a
theorem relF_old {g f : Addr → Nat} {H H' : Hp} {a : Addr} (h : H a ≠ none) : relF g H H' f a = g a := by
  unfold relF; rw [if_neg fun z => h z.1]
theorem relF_new {g f : Addr → Nat} {H H' : Hp} {a : Addr} (h : New H H' a) : relF g H H' f a = f a := by
  unfold relF; rw [if_pos h]
section
variable {mg : Mg} {P : Fm} {LL : List Nat} {g f : Addr → Nat} {ρ : List D} {σ : L2.St} {H H' : Hp}
theorem Old.relF {L : List Nat} {a : Addr} (o : Old P g L a) (l : Loc P LL g H) : Old P (relF g H H' f) L a := by
  unfold Old
  rw [relF_old (o.there l)]
  exact o
theorem Loc.relF (l : Loc P LL g H) (e : Ext H H') : Loc P LL (relF g H H' f) H' := by
  refine ⟨fun a h => ?_, (l.ext e).out, fun a h => ?_⟩
  rotate_left
  · have := l.fz a h
    obtain ⟨⟨o, u, q⟩, this2⟩ := this
    exact ⟨⟨o, u, e a _ q⟩, by rw [relF_old (by rw [q]; simp)]; exact this2⟩
  by_cases hn : New H H' a
  · obtain ⟨h1, h2⟩ := hn
    cases q : H' a with
    | none => rw [q] at h2; exact h2.elim
    | some o => rw [q] at h2; exact ⟨o, rfl, .inl h2⟩
  · by_cases h0 : H a = none
    · unfold VV.relF at h
      rw [if_neg hn] at h
      obtain ⟨o, e1, _⟩ := l.at_ a h
      rw [h0] at e1; cases e1
    · rw [relF_old h0] at h
      exact (l.ext e).at_ a h
theorem CellOk.relF {k : Kd} {d : D} {ov : Option V} (c : CellOk mg P g H k d ov) (l : Loc P LL g H) (e : Ext H H') : CellOk mg P (relF g H H' f) H' k d ov := by
  cases k with
  | dead => trivial
  | exc _ _ => exact c
  | ob m Ls =>
    obtain ⟨b, C, dx, c, ns, vs, ds, fps, rfl, rfl, hc, hl, r, ob, rs, fs, nd⟩ := c
    exact ⟨b, C, dx, c, ns, vs, ds, fps, rfl, rfl, hc, hl, e b _ r, ⟨ob.1.relF l, ob.2⟩, rs.mono fun d v f h => h.ext e, fs.mono fun b L h => h.relF l, nd⟩
  | flat => obtain ⟨v, rfl, r⟩ := c; exact ⟨v, rfl, r.ext e⟩
  | lab rt L nd =>
    obtain ⟨w, fp, rfl, r, o, z⟩ := c
    refine ⟨w, fp, rfl, r.ext e, fun a ha => ?_, z⟩
    rcases o a ha with ⟨x, k, y, o'⟩ | ⟨x, o'⟩
    · exact .inl ⟨x, k, y, o'.relF l⟩
    · exact .inr ⟨x, o'.relF l⟩
theorem Cells.relF (l : Loc P LL g H) (e : Ext H H') : ∀ {Γ : List Kd} {ρ : List D} {σ : L2.St}, Cells mg P g H Γ ρ σ → Cells mg P (relF g H H' f) H' Γ ρ σ
  | [], [], [], _ => trivial
  | _ :: _, _ :: _, _ :: _, h => ⟨h.1.relF l e, Cells.relF l e h.2⟩
  | [], _ :: _, _, h => h.elim
  | [], [], _ :: _, h => h.elim
  | _ :: _, [], _, h => h.elim
  | _ :: _, _ :: _, [], h => h.elim
theorem Sta.relF {Γ : List Kd} (s : Sta mg P LL Γ g ρ σ H) (e : Ext H H') : Sta mg P LL Γ (relF g H H' f) ρ σ H' := ⟨s.loc.relF e, s.cells.relF s.loc e⟩
theorem Step.relF (e : Ext H H') : Step LL g H (relF g H H' f) H' := ⟨fun a _ u h => e a u h, fun a h x => relF_old h, fun a h z => h (e.nope z)⟩
end
/-- what is flat, a list or a dict -/
def D.rooty (d : D) : Bool := d.isFlat || (match d with | .lst _ => true | .dic _ _ _ => true | _ => false)
def kU (p : Nat × Nat) : Kd := .lab (some p.1) [p.2] true
theorem parts_ok {mg : Mg} {P : Fm} {H : Hp} : ∀ {ds : List D} {vs : List V} {fp : List Addr} (nk : List (Nat × Nat)), RepL mg H ds vs fp → fp.Nodup → (∀ d ∈ ds, d.rooty = true) → (∀ p ∈ nk, p.1 ≠ 0 ∧ p.2 ≠ 0) → nk.length = ds.length →
    ∃ f : Addr → Nat, (∀ a, f a ≠ 0) ∧ ∀ g : Addr → Nat, (∀ a ∈ fp, g a = f a) → ∀ (j : Nat) (d : D) (v : V) (p : Nat × Nat), ds[j]? = some d → vs[j]? = some v → nk[j]? = some p → CellOk mg P g H (kU p) d (some v)
  | [], _, _, nk, _, _, _, _, _ => ⟨fun _ => 1, fun _ => Nat.one_ne_zero, fun g _ j d v p e => by simp at e⟩
  | d :: ds, _, _, [], _, _, _, _, hl => by simp at hl
  | d :: ds, _, _, p :: nk, h, nd, hr, hp, hl => by
    simp only [RepL] at h
    obtain ⟨v, r, f1, f2, rfl, h1, h2, rfl⟩ := h
    obtain ⟨n1, n2, n3⟩ := List.nodup_append.mp nd
    obtain ⟨f, hf0, hf⟩ := parts_ok (P := P) nk h2 n2 (fun x hx => hr x (List.mem_cons_of_mem _ hx)) (fun x hx => hp x (List.mem_cons_of_mem _ hx)) (by simpa using hl)
    obtain ⟨p1, p2⟩ := hp p List.mem_cons_self
    refine ⟨fun a => if a ∈ f1 then (if v = .ref a then p.1 else p.2) else f a, fun a => ?_, fun g hg j d' v' q e1 e2 e3 => ?_⟩
    · dsimp only
      split
      · split
        · exact p1
        · exact p2
      · exact hf0 a
    · cases j with
      | succ j =>
        refine hf g (fun a ha => ?_) j d' v' q (by simpa using e1) (by simpa using e2) (by simpa using e3)
        have q := hg a (List.mem_append_right _ ha)
        dsimp only at q
        rw [q, if_neg fun z => n3 a z a ha rfl]
      | zero =>
        simp at e1 e2 e3
        subst e1 e2 e3
        refine ⟨v, f1, rfl, h1, fun a ha => ?_, fun _ => n1, fun _ a f _ e => ?_⟩
        · have hga := hg a (List.mem_append_left _ ha)
          dsimp only at hga
          rw [if_pos ha] at hga
          by_cases hv : v = .ref a
          · rw [if_pos hv] at hga
            exact .inl ⟨hv, p.1, rfl, by rw [hga]; exact List.mem_singleton.mpr rfl, fun z => absurd (hga.symm.trans z) p1⟩
          · rw [if_neg hv] at hga
            exact .inr ⟨.inl hv, by rw [hga]; exact List.mem_singleton.mpr rfl, fun z => absurd (hga.symm.trans z) p2⟩
        · subst e
          exact (List.nodup_cons.mp n1).1
/-! ### targets, each of a kind -/
def EGk (X : Cx) (Γ : List Kd) (tgs : List Expr) (ks : List Kd) (sem : List D → List D → Option (List D)) (Γ' : List Kd) (S : List Nat) : Prop :=
  (∀ ds ρ ρ', sem ds ρ = some ρ' → ds.length = tgs.length ∧ ks.length = tgs.length) ∧ ∃ t, PGs X tgs t ∧ ∀ P LL g ρ σ H (ds : List D) (vs : List V) ρ' (Q : L2.St → Hp → Prop), Sta X.vm P LL Γ g ρ σ H →
    (∀ (i : Nat) (d : D) (v : V) (k : Kd), ds[i]? = some d → vs[i]? = some v → ks[i]? = some k → CellOk X.vm P g H k d (some v)) → vs.length = ds.length → sem ds ρ = some ρ' →
    (∀ σ', Sta X.vm P LL Γ' g ρ' σ' H → Wp S σ σ' → Q σ' H) → t vs σ H Q
def sAsgU (ts : List D → List D → Option (List D)) (e : Ev) : Sv := fun ρ => match e ρ with
  | some (.tup ds) => if ds.all D.rooty = true then (ts ds ρ).map .nx else none
  | _ => none
section
variable {X : Cx} {W : L2.WX} {sc : Sc} {Γ Γ' Γ1 : List Kd} {pos : Pos}
theorem egk_nil : EGk X Γ [] [] gsNil Γ [] := by
  refine ⟨fun ds ρ ρ' e => ?_, _, pgs_nil, fun P LL g ρ σ H ds vs ρ' Q s c hl e q => ?_⟩
  · cases ds with
    | nil => exact ⟨rfl, rfl⟩
    | cons => cases e
  · cases ds with
    | nil => cases e; exact ⟨List.eq_nil_of_length_eq_zero hl, q σ s fun _ _ => rfl⟩
    | cons => cases e
theorem egk_cons {tg : Expr} {tgs : List Expr} {k : Kd} {ks : List Kd} {t : Tv} {ts : List D → List D → Option (List D)} {S S' : List Nat} (h : EG X Γ tg k t Γ1 S) (h' : EGk X Γ1 tgs ks ts Γ' S')
    (hs : (assignEach (tg :: tgs) X.env).map (·.2) = assign tg X.env :: (assignEach tgs X.env).map (·.2) := by rfl) : EGk X Γ (tg :: tgs) (k :: ks) (gsCons t ts) Γ' (S ++ S') := by
  obtain ⟨u, p, kk⟩ := h
  obtain ⟨hl, u', p', kk'⟩ := h'
  refine ⟨fun ds ρ ρ' e => ?_, _, pgs_cons p p' hs, fun P LL g ρ σ H ds vs ρ' Q s c hlen e q => ?_⟩
  · cases ds with
    | nil => cases e
    | cons d r =>
      obtain ⟨ρ1, e1, e2⟩ := bind_some e
      have := hl r ρ1 ρ' e2
      simp [this.1, this.2]
  · cases ds with
    | nil => cases e
    | cons d r =>
      obtain ⟨ρ1, e1, e2⟩ := bind_some e
      cases vs with
      | nil => cases hlen
      | cons v vr =>
        refine ⟨v, vr, rfl, kk P LL g ρ σ H d v ρ1 _ s (c 0 d v k rfl rfl rfl) e1 fun σ' s' w1 => ?_⟩
        exact kk' P LL g ρ1 σ' H r vr ρ' Q s' (fun i d' v' k' h1 h2 h3 => c (i + 1) d' v' k' (by simpa using h1) (by simpa using h2) (by simpa using h3)) (by simpa using hlen) e2 fun σ2 s2 w2 => q σ2 s2 fun vs hv =>
          (w2 vs fun i hi => hv i (List.mem_append_right _ hi)).trans (w1 vs fun i hi => hv i (List.mem_append_left _ hi))
theorem sx_asgU {es : List Expr} {c : Nat} {tp : Pos} {e : Expr} {se : Ev} {ts : List D → List D → Option (List D)} {S : List Nat} (nk : List (Nat × Nat)) (hc : X.calm = true) (he : EX X sc.LL Γ e se (.al true .new [] true)) (hg : EGk X Γ es (nk.map kU) ts Γ' S)
    (hs : swapsWithSole [.Tuple es c tp] e pos.line X.env = pure false := by rfl) (hw : swappedStores [.Tuple es c tp] e X.env = pure none := by rfl)
    (ha : (assignEach [.Tuple es c tp] X.env).map (·.2) = [assign (.Tuple es c tp) X.env] := by rfl)
    (hst : (assignEach es X.env).findIdx? (·.1) = none := by rfl) (hn : (assignEach es X.env).length = es.length := by rfl) (h0 : ∀ p ∈ nk, p.1 ≠ 0 ∧ p.2 ≠ 0 := by decide) :
    SX X W sc Γ (.Assign [.Tuple es c tp] e pos) (sAsgU ts se) Γ' := by
  obtain ⟨u, p, kk⟩ := he
  obtain ⟨hl, u', p', kk'⟩ := hg
  refine ⟨_, ps_asg p (pg_tup hc p' hn hst) hs hw ha, fun P g ρ σ H o D s e w => ?_⟩
  unfold sAsgU at e
  split at e
  · rename_i ds e1
    split at e
    · rename_i hroot
      rw [List.all_eq_true] at hroot
      cases e2 : ts ds ρ with
      | none => rw [e2] at e; cases e
      | some ρ' =>
        rw [e2] at e
        cases e
        obtain ⟨l1, l2⟩ := hl ds ρ ρ' e2
        refine kk P g ρ σ H (.tup ds) _ s e1 fun v H' x vl => ?_
        obtain ⟨fp, r, hnew, hnd⟩ := vl
        have nd := hnd.1 rfl
        have r0 := r
        simp only [Rep] at r
        obtain ⟨a, vs, rfl, r1, r2⟩ := r
        obtain ⟨f, hf0, hf⟩ := parts_ok (P := P) nk r2 nd hroot h0 (by rw [List.length_map] at l2; omega)
        have hnw : ∀ b ∈ fp, New H H' b := fun b hb => by
          rcases hnew b hb with ⟨_, y⟩ | ⟨_, ⟨_, y⟩ | y⟩
          · exact y
          · exact y
          · exact absurd y.1 (by simp)
        refine ⟨a, vs, rfl, .inl (.inl r1), by rw [r2.length, l1], ?_⟩
        refine kk' P sc.LL (VV.relF g H H' f) ρ σ H' ds vs ρ' D.nx (s.relF x) (fun i d v k q1 q2 q3 => ?_) r2.length e2 fun σ' s' _ => w _ σ' H' (.relF x) s'
        rw [List.getElem?_map] at q3
        cases q4 : nk[i]? with
        | none => rw [q4] at q3; cases q3
        | some pq =>
          rw [q4] at q3
          cases q3
          exact hf _ (fun b hb => relF_new (hnw b hb)) i d v pq q1 q2 q4
    · cases e
  · cases e
end
end VV

/-! ## VPutT -/
/-! x[i][j] = e, a thing that may be new into a list of flat lists -/
namespace VV
open PySem PySem.Spec PyProof.Rows L2
section
variable {mg : Mg} {H : Hp}
theorem repL_innerT : ∀ {rows : List D} {vs : List V} {f : List Addr} {t : Nat} {r : List D}, RepL mg H rows vs f → rows[t]? = some (.lst r) → f.Nodup →
    ∃ b us fr, vs[t]? = some (.ref b) ∧ H b = some (.lst us) ∧ RepL mg H r us fr ∧ b ∈ f ∧ b ∉ fr ∧ ∀ us' r' fr', b ∉ fr' → (∀ c ∈ fr', c ∉ f) → RepL mg (upd H b (.lst us')) r' us' fr' →
      ∃ f', (∀ c ∈ f', c ∈ f ∨ c ∈ fr') ∧ (fr'.Nodup → f'.Nodup) ∧ RepL mg (upd H b (.lst us')) (rows.set t (.lst r')) vs f'
  | [], _, _, _, _, _, e, _ => by simp at e
  | d0 :: rows, _, _, 0, r, h, e, hf => by
    simp only [RepL] at h
    obtain ⟨v, r0, f1, f2, rfl, h1, h2, rfl⟩ := h
    simp at e; subst e
    obtain ⟨nf1, nf2, dj⟩ := List.nodup_append.mp hf
    simp only [Rep] at h1
    obtain ⟨b, us, fr, rfl, hb, rr, rfl⟩ := h1
    obtain ⟨hbf, nfr⟩ := List.nodup_cons.mp nf1
    have hb2 : b ∉ f2 := fun hm => dj b List.mem_cons_self b hm rfl
    refine ⟨b, us, fr, rfl, hb, rr, List.mem_append_left _ List.mem_cons_self, hbf, fun us' r' fr' hbn hnew rr' => ⟨(b :: fr') ++ f2, fun c hc => ?_, fun n' => ?_, ?_⟩⟩
    · rcases List.mem_append.mp hc with hc | hc
      · rcases List.mem_cons.mp hc with rfl | hc
        · exact .inl (List.mem_append_left _ List.mem_cons_self)
        · exact .inr hc
      · exact .inl (List.mem_append_right _ hc)
    · refine List.nodup_append.mpr ⟨List.nodup_cons.mpr ⟨hbn, n'⟩, nf2, fun c hc c' hc' e => ?_⟩
      subst e
      rcases List.mem_cons.mp hc with rfl | hc
      · exact hb2 hc'
      · exact hnew c hc (List.mem_append_right _ hc')
    · simp only [List.set_cons_zero, RepL]
      refine ⟨.ref b, r0, b :: fr', f2, rfl, ?_, repL_upd h2 hb2 hb trivial, rfl⟩
      simp only [Rep]
      exact ⟨b, us', fr', rfl, upd_same, rr', rfl⟩
  | d0 :: rows, _, _, t + 1, r, h, e, hf => by
    simp only [RepL] at h
    obtain ⟨v, r0, f1, f2, rfl, h1, h2, rfl⟩ := h
    obtain ⟨nf1, nf2, dj⟩ := List.nodup_append.mp hf
    obtain ⟨b, us, fr, e1, hb, rr, hm, hbf, hh⟩ := repL_innerT (t := t) h2 (by simpa using e) nf2
    have hb1 : b ∉ f1 := fun hm1 => dj b hm1 b hm rfl
    refine ⟨b, us, fr, by simpa using e1, hb, rr, List.mem_append_right _ hm, hbf, fun us' r' fr' hbn hnew rr' => ?_⟩
    obtain ⟨f', s', n', k⟩ := hh us' r' fr' hbn (fun c hc z => hnew c hc (List.mem_append_right _ z)) rr'
    refine ⟨f1 ++ f', fun c hc => ?_, fun nn => ?_, ?_⟩
    · rcases List.mem_append.mp hc with hc | hc
      · exact .inl (List.mem_append_left _ hc)
      · exact (s' c hc).imp (fun z => List.mem_append_right _ z) id
    · refine List.nodup_append.mpr ⟨nf1, n' nn, fun c hc c' hc' e => ?_⟩
      subst e
      rcases s' c hc' with z | z
      · exact dj c hc c z rfl
      · exact hnew c z (List.mem_append_left _ hc)
    · simp only [List.set_cons_succ, RepL]
      exact ⟨v, r0, f1, f', rfl, rep_upd h1 hb1 hb trivial, k, rfl⟩
end
def putRowT (rows : List D) (k j : Int) (d : D) : Option D := (ixN rows.length k).bind fun t => match rows[t]? with
  | some (.lst r) => if D.isFlatL r = true then (ixN r.length j).map fun u => .lst (rows.set t (.lst (r.set u d))) else none
  | _ => none
def putAtT : D → D → D → D → Option D
  | .lst rows, .int k, .int j, d => putRowT rows k j d
  | _, _, _, _ => none
theorem putAtT_some {dd dk dj d z : D} (h : putAtT dd dk dj d = some z) : ∃ rows k j, dd = .lst rows ∧ dk = .int k ∧ dj = .int j ∧ putRowT rows k j d = some z := by
  unfold putAtT at h
  split at h
  · exact ⟨_, _, _, rfl, rfl, rfl, h⟩
  · cases h
def sPutAtT (i : Nat) (six sj se : Ev) : Sv := fun ρ => do
  let d ← se ρ
  let k ← six ρ
  let j ← sj ρ
  let dd ← ρ[i]?
  let z ← putAtT dd k j d
  some (.nx (ρ.set i z))
section
variable {X : Cx} {W : L2.WX} {sc : Sc} {Γ : List Kd} {pos : Pos}
theorem sx_putAtT {i : Nat} {x : Str} {px ps pos' : Pos} {ix j e : Expr} {se sj six : Ev} {n : Nat} {L : List Nat} {m : Md} (c : Nat) (hk : Γ[i]? = some (.lab (some n) L true)) (hN : X.N[i]? = some x) (hv : Vis X.env.scope x)
    (he : EX X sc.LL Γ e se m) (hi : EX X sc.LL Γ ix six .flat) (hj : EX X sc.LL Γ j sj .flat) (hm : m.labs = [] := by rfl) (hc : c ≠ 0 := by decide) (hL : ∀ l ∈ L, l ≠ 0 ∧ l ∉ sc.LL ∧ l ≠ n := by decide) (hn : n ≠ 0 := by decide)
    (hdb : (x == ("__debug__" : Str)) = false := by decide) (hcd : (x == ("__classdict__" : Str)) = false := by decide) (hsx : PlainIx ix := by exact fun _ _ => rfl)
    (ha : ∀ v, assign (.Subscript (.Subscript (.Name x px) ix ps) j pos') X.env v = (do
      let ov ← holding [v] (eval (.Subscript (.Name x px) ix ps) X.env)
      let iv ← holding [v, ov] (eval j X.env)
      standAt pos'
      holding [v, ov, iv] (setItem ov iv v)
      release [v, ov, iv] []) := by intro _; rfl)
    (hs : swapsWithSole [.Subscript (.Subscript (.Name x px) ix ps) j pos'] e pos.line X.env = pure false := by rfl) (hw : swappedStores [.Subscript (.Subscript (.Name x px) ix ps) j pos'] e X.env = pure none := by rfl)
    (h1 : (assignEach [.Subscript (.Subscript (.Name x px) ix ps) j pos'] X.env).map (·.2) = [assign (.Subscript (.Subscript (.Name x px) ix ps) j pos') X.env] := by rfl) :
    SX X W sc Γ (.Assign [.Subscript (.Subscript (.Name x px) ix ps) j pos'] e pos) (sPutAtT i six sj se) ((killL L Γ).set i (Kd.push c (.lab (some n) L true) m)) := by
  obtain ⟨t, pt, kk⟩ := he
  obtain ⟨tb, pb, kb⟩ := hi
  obtain ⟨tj, pj, kj⟩ := hj
  refine ⟨_, ps_asg pt (pg_sub (pe_ix ix_seq (pe_var hN hv hdb hcd) pb hsx) pj L2.set_list ha) hs hw h1, fun P g ρ σ H o De s e w => ?_⟩
  obtain ⟨d, e1, e⟩ := bind_some e
  obtain ⟨dk, e2, e⟩ := bind_some e
  obtain ⟨dj, e3, e⟩ := bind_some e
  obtain ⟨dd, hρ, e⟩ := bind_some e
  obtain ⟨z, ez, e⟩ := bind_some e
  cases e
  obtain ⟨rows, k, jj, rfl, rfl, rfl, ey⟩ := putAtT_some ez
  unfold putRowT at ey
  obtain ⟨t, et, ey⟩ := bind_some ey
  split at ey
  case h_2 => cases ey
  rename_i r hrt
  split at ey
  case isFalse => cases ey
  rename_i hfl
  obtain ⟨u, eu, rfl⟩ := Option.map_eq_some_iff.mp ey
  obtain ⟨dd, ov, h1, h2, h3⟩ := s.cells.get hk
  rw [hρ] at h1; cases h1
  obtain ⟨v, fp, rfl, rp, q, z⟩ := h3
  simp only [Rep] at rp
  obtain ⟨a, vs, f, rfl, ha0, rl, rfl⟩ := rp
  have nd := List.nodup_cons.mp (z.1 rfl)
  have hga : g a = n := root_lab q
  have oldf : ∀ b ∈ f, Old P g L b := fun b hb => by
    rcases q b (List.mem_cons_of_mem _ hb) with ⟨e, _⟩ | ⟨_, y⟩
    · cases e; exact absurd hb nd.1
    · exact y
  refine kk P g ρ σ H _ _ s e1 fun y H2 x2 wy => ?_
  refine ⟨.ref a, h2, ?_⟩
  refine kb P g ρ σ H2 _ _ (s.ext x2) e2 fun yk H3 x3 wk => ?_
  have rk : Rep X.vm H3 (.int k) yk [] := wk
  obtain rfl := rInt rk
  have x23 := x2.trans x3
  have ha3 : H3 a = some (.lst vs) := x23 a _ ha0
  obtain ⟨b, us, fr, e1', hb, rr, hbm, hbf, hh⟩ := repL_innerT rl hrt nd.2
  refine .inl ⟨a, vs, k, .ref b, rfl, rfl, SqL.of ha3, by unfold atI; rw [rl.length, et]; exact e1', ?_⟩
  refine kj P g ρ σ H3 _ _ (s.ext x23) e3 fun yj H4 x4 wj => ?_
  have rj : Rep X.vm H4 (.int jj) yj [] := wj
  obtain rfl := rInt rj
  have x24 := x23.trans x4
  obtain ⟨fy, ry, oy, ndy, lby⟩ := (wy.ext (x3.trans x4)).pushed (c := c) s.loc hc
  have fresh : ∀ b ∈ fy, H b = none := fun b hb => by
    rcases lby b hb with y | y
    · exact y.1
    · have := y.1; rw [hm] at this; cases this
  obtain ⟨b', us', fr', e1'', hb4, rr4, hbm', hbf', hh4⟩ := repL_innerT (rl.ext x24) hrt nd.2
  have ebb : b' = b := by rw [e1'] at e1''; cases e1''; rfl
  subst ebb
  have ha4 : H4 a = some (.lst vs) := x24 a _ ha0
  have hul : u < r.length := by
    unfold ixN at eu
    split at eu
    · split at eu <;> cases eu <;> omega
    · split at eu <;> cases eu <;> omega
  refine ⟨b', us', jj, u, rfl, rfl, hb4, by rw [rr4.length]; exact eu, ?_⟩
  have rr0 := rr4.flats hfl
  obtain ⟨f', g1, g2, g3⟩ := repL_set ry rr0 hul
  have g2' : ∀ b ∈ f', b ∈ fy := fun b hb => (g2 b hb).resolve_left (by simp)
  have hbH : H b' ≠ none := by rw [hb]; simp
  have hb'f' : b' ∉ f' := fun z => hbH (fresh _ (g2' _ z))
  obtain ⟨f2, hf2, nf2, rl2⟩ := hh4 (us'.set u y) (r.set u d) f' hb'f' (fun c hc z => ((oldf c z).there s.loc) (fresh c (g2' c hc))) (repL_upd g1 hb'f' hb4 trivial)
  have ob := oldf b' hbm
  have hlb := hL _ ob.1
  have hba : b' ≠ a := fun z => nd.1 (z ▸ hbm)
  have haf : a ∉ f2 := fun hm => (hf2 a hm).elim nd.1 fun z => by
    have := fresh a (g2' a z); rw [ha0] at this; cases this
  have st2 : Sta X.vm P sc.LL Γ (relab g H H4 .non c c) ρ σ H4 := s.relab x24
  have hgb : relab g H H4 .non c c b' = g b' := relab_old hbH
  have hg2 : relab g H H4 .non c c a = n := by rw [relab_old (by rw [ha0]; simp)]; exact hga
  have cell : CellOk X.vm P (relab g H H4 .non c c) (upd H4 b' (.lst (us'.set u y))) (Kd.push c (.lab (some n) L true) m) (.lst (rows.set t (.lst (r.set u d)))) (some (.ref a)) := by
    refine ⟨.ref a, a :: f2, rfl, ?_, fun b hb => ?_, fun hn' => ?_, fun _ b g' e1 e2 => by cases e2; exact haf⟩
    · simp only [Rep]
      exact ⟨a, vs, f2, rfl, by rw [upd_ne (Ne.symm hba)]; exact ha4, rl2, rfl⟩
    · rcases List.mem_cons.mp hb with rfl | hb
      · exact .inl ⟨rfl, n, rfl, by rw [hg2]; exact List.mem_singleton.mpr rfl, fun z => by rw [hg2] at z; exact absurd z hn⟩
      · refine .inr ⟨.inl fun e => by cases e; exact haf hb, ?_⟩
        rcases hf2 b hb with z | z
        · have y' := Old.relab (H' := H4) (v := .non) (n := c) (m := c) (oldf b z) s.loc
          exact ⟨List.mem_append_left _ y'.1, y'.2⟩
        · have y' := oy b (g2' b z)
          exact ⟨List.mem_append_right _ y'.1, y'.2⟩
    · simp only [Bool.and_eq_true] at hn'
      exact List.nodup_cons.mpr ⟨haf, nf2 (g3 List.nodup_nil (ndy hn'.1.2) (fun b hb => nomatch hb))⟩
  obtain ⟨s3, st3⟩ := st2.put (i := i) (o' := .lst (us'.set u y)) hb4 trivial trivial hgb hlb.1 hlb.2.1 h2 cell
  refine w _ σ _ ((Step.relab x24).trans st3) ⟨s3.loc, ?_⟩
  refine Cells.weak s3.cells (by simp [killL, killK]) fun q => ?_
  by_cases e : i = q
  · subst e
    have hi : i < Γ.length := (List.getElem?_eq_some_iff.mp hk).1
    left
    rw [List.getElem?_set_self (by unfold killL; rw [List.length_map]; exact hi), List.getElem?_set_self (by unfold killK; rw [List.length_map]; exact hi)]
  · rw [List.getElem?_set_ne e, List.getElem?_set_ne e]
    unfold killL killK
    rw [List.getElem?_map, List.getElem?_map]
    cases Γ[q]? with
    | none => left; rfl
    | some k =>
      simp only [Option.map_some]
      by_cases h : L.any (fun n => k.has n) = true
      · right; rw [if_pos h]
      · left
        rw [if_neg h]
        have : k.has (g b') = false := by
          cases e : k.has (g b') with
          | false => rfl
          | true => exact absurd (List.any_eq_true.mpr ⟨_, ob.1, e⟩) h
        rw [this]
        rfl
end
end VV

/-! ## VShow -/
/-! repr(x) of a thing, in a def of which it is known that no thing's text is being made around it: the law itself, called by its caller -/
namespace VV
open PySem PySem.Spec PyProof.Rows L2
def D.showOk (d : D) : Bool := d.toP.canLay0 && (d.toP.showable && (decide (d.toP.depth ≤ 16) && decide (d.toP.shown.length ≤ sizeLine)))
def dShow : List D → Option D
  | [d] => if d.showOk = true then some (.str d.toP.shown) else none
  | _ => none
section
variable {X : Cx}
/-- what repr is told -/
def ShowR (K : PySem.W.Frag) (xs : List V) (H : Hp) (Q : VK) : Prop := ∃ x d, xs = [x] ∧ Dp K H x d ∧ d.showable = true ∧ d.hasDict = false ∧ d.depth ≤ 16 ∧ d.shown.length ≤ sizeLine ∧ Q (.str d.shown) H
theorem call_show (hg : X.A.guards = some []) (hu : X.A.units + 64 < cLine) : CallR X (.builtin "repr") (ShowR X.K) := by
  intro pins s σ H xs us Q I r ⟨x, d, ex, dp, hs, hd, hdep, hz, q⟩
  subst ex
  cases r with
  | cons rx rn =>
    cases rn
    have fin : ∀ (t : Nat) (u : Tok), EP X pins σ Q (.str d.shown u) { s with toks := t } := fun t u => ⟨.str d.shown, H, I.tok t, ⟨u, rfl⟩, q⟩
    cases dp with
    | non =>
      cases rx
      exact P.repr_of_none (by have h := fin; simp only [PyData.shown] at h; exact h _ _)
    | bl b =>
      cases rx
      exact P.repr_of_bool (by have h := fin; simp only [PyData.shown] at h; exact h _ _)
    | int i =>
      obtain ⟨t, rfl⟩ := rx
      exact P.repr_of_int (by simpa [PyData.showable] using hs) (by have h := fin; simp only [PyData.shown] at h; exact h _ _)
    | str y =>
      obtain ⟨t, rfl⟩ := rx
      exact P.repr_of_str (by have h := fin; simp only [PyData.shown] at h; exact h _ _) (by simpa only [PyData.shown] using hz)
    | lst h1 h2 =>
      obtain ⟨as, rd⟩ := Dp.reads I _ _ _ (Dp.lst h1 h2) rx
      cases rx
      exact repr_of_reads' rd hs (PyData.noDict_hsm hd) hg (by omega) (fun _ _ e => e) (fun h' u tk hk => ⟨.str _, H, I.kept hk, ⟨u, rfl⟩, q⟩) hz
    | tup h1 h2 =>
      obtain ⟨as, rd⟩ := Dp.reads I _ _ _ (Dp.tup h1 h2) rx
      cases rx
      exact repr_of_reads' rd hs (PyData.noDict_hsm hd) hg (by omega) (fun _ _ e => e) (fun h' u tk hk => ⟨.str _, H, I.kept hk, ⟨u, rfl⟩, q⟩) hz
theorem cp_show : CP X (ShowR X.K) dShow toFlat := by
  intro P LL g H H1 m ds vs d Q l x vl e q
  obtain ⟨fp, r⟩ := vl.rep
  unfold dShow at e
  split at e
  · split at e
    · rename_i h
      cases e
      unfold D.showOk at h
      simp only [Bool.and_eq_true, decide_eq_true_eq] at h
      obtain ⟨hc, hs, hd, hz⟩ := h
      obtain ⟨v, rfl, h⟩ := repL1 r
      exact ⟨v, _, rfl, Rep.dp h hc, hs, PyData.hasDict_of_canLay _ hc, hd, hz, q _ H1 Ext.refl (val_flat rep_str)⟩
    · cases e
  · cases e
end
/-- != of texts, whatever signs they have -/
def dNeS : List D → Option D
  | [.str a, .str b] => some (.bl (!decide (a = b)))
  | _ => none
section
variable {X : Cx} {LL : List Nat} {Γ : List Kd} {pos : Pos} {a b : Expr} {sa sb : Ev} {ma mb : Md}
theorem cp_neS : CP X (r2 L2.rNe) dNeS toFlat := by
  intro P LL g H H1 m ds vs d Q l x vl e q
  obtain ⟨fp, r⟩ := vl.rep
  unfold dNeS at e
  split at e
  · rename_i y z
    cases e
    obtain ⟨v, w, _, _, rfl, h, h2, _⟩ := repL2 r
    obtain rfl := rStr h
    obtain rfl := rStr h2
    have e : (decide (V.str y = V.str z)) = decide (y = z) := by
      rw [Bool.eq_iff_iff]
      simp
    exact ⟨_, _, rfl, rfl, by rw [e]; exact q _ H1 Ext.refl (val_flat rep_bl)⟩
  · cases e
theorem et_neS (ha : EX X LL Γ a sa ma) (hb : EX X LL Γ b sb mb) : ET X LL Γ (.Compare a [.NotEq] [b] pos) (tOf (eP dNeS (aCons sa (aCons sb aNil)))) := et_cmp L2.op_ne cp_neS ha hb (nomark _)
end
/-- what a def promises to the caller of the law -/
def OkC (P : Program) (w : World) (K : PySem.W.Frag) (mg : Str → Option Value) (base : Heap) (f : Addr) (fd : FuncData) (ps : List Str) (sp : Sp) : Prop :=
  ∀ (s : Shared) (H : Hp) (us : List Value) (vs : List V) (Q : VK), Env0 P w K mg base callerA [] s H → BindsTo s fd ⟨us, []⟩ (ps.zip us) → Vals vs us → sp vs H Q (fun _ _ _ => False) →
    codeAny (model P w) callerA (.call (.ref f) ⟨us, []⟩) (CR CX0 [] P w H s Q fun _ _ _ => False) s
section
variable {P : Program} {w : World} {K : PySem.W.Frag} {mg : Str → Option Value} {base : Heap} {x qual : Str} {params : Arguments} {body : List Stmt} {scope : Scope} {f : Addr} {fd : FuncData}
theorem fn_okC {N ps : List Str} {k : Nat} {sc : Sc} {Γ' : List Kd} {sv : Sv} (F : FunD K x qual params body scope [] [] f fd) (S : FnScope N ps scope) (pk : List Kd) (hp : pk.length = ps.length) (hN : ps.length ≤ N.length) (hL : sc.LL = []) (hR : Room (k + 1) callerA)
    (hb : ∀ (cdv : Value) (A : Around) (s0 : Shared) (H : Hp) (E : XK), A.guards = some [] → Room k (A.deeper (envOfC qual scope s0.heap.objs.size f cdv)) →
      SS (cxOf CX0 P w K mg base N qual scope f cdv A [] s0 H E).nox (fun _ _ _ _ => False) sc (pk ++ List.replicate (N.length - pk.length) .dead) body sv Γ') :
    OkC P w K mg base f fd ps (sp0 ⟨mg, K⟩ (fnSem N.length pk sv) ps.length sc.R) := by
  intro s H us vs Q e0 hbd rv hsp
  obtain ⟨c1, c2, c3, c4, c5, c6, c7, cd, c8, c9, hfd, look, code, _⟩ := F.ex
  subst hfd
  have hl : vs.length = ps.length := hsp.1
  have KX : K.In s.heap := e0.mod.kin.keeps fun b o e => (e0.bs b o e).1
  have hNL : s.heap.NoLimit := e0.mod.nolimit.keeps fun b o e => (e0.bs b o e).1
  have hks : ∀ y ∈ ps.zip us, scope.names.lookup y.1 = some .local ∨ (scope.names.lookup y.1 = some .cell ∧ ((cellsFrom (s.heap.objs.size + 1) scope.names []).lookup y.1).isSome = true) := by
    intro y hy
    have hm : y.1 ∈ ps := (List.of_mem_zip (show (y.1, y.2) ∈ ps.zip us from hy)).1
    exact (S.par y.1 hm).imp id fun q => ⟨q, PySem.W.cellsFrom_some _ _ _ (.inl q)⟩
  -- the body, as a tree
  have hbody : ∃ t, PSs (cxOf CX0 P w K mg base N qual scope f cd callerA [] s H fun _ _ _ => False) body t ∧ t { nx := fun _ H' => Q .non H', rt := Q } (L2.start N vs) H := by
    obtain ⟨_, ds, fp, d, r, e, q⟩ := hsp
    obtain ⟨t, p, kk⟩ := hb cd callerA s H (fun _ _ _ => False) rfl (hR.deeper _)
    refine ⟨t, p.nox, ?_⟩
    unfold fnSem at e
    split at e
    case isFalse => cases e
    rename_i hpk
    have hlen := pkOk_len hpk
    have hvd := r.length
    have st : Sta ⟨mg, K⟩ ⟨fun a => a ∈ fp, fun _ => False⟩ sc.LL (pk ++ List.replicate (N.length - pk.length) .dead) (fun _ => 0) (ds ++ List.replicate (N.length - ds.length) .non) (L2.start N vs) H := by
      rw [hL]
      refine ⟨loc_start r.there, ?_⟩
      unfold L2.start
      rw [hvd, hlen]
      exact cells_start _ hpk r fun a ha => ha
    cases o : sv (ds ++ List.replicate (N.length - ds.length) .non) with
    | none => rw [o] at e; cases e
    | some o' =>
      rw [o] at e
      refine kk ⟨fun a => a ∈ fp, fun _ => False⟩ (fun _ => 0) _ _ H o' _ st o ?_
      cases o' with
      | nx ρ' =>
        cases e
        intro g' σ' H' s' st'
        rw [hL] at s'
        refine q .non H' (step_ext s') ?_
        have r : Rep ⟨mg, K⟩ H' .non .non [] := rep_non
        cases sc.R with
        | flat => exact r
        | fresh => exact ⟨[], r, by simp, fun a ha => nomatch ha⟩
        | out => exact ⟨[], r, fun a ha => nomatch ha⟩
        | news => exact ⟨[], r, fun a ha => nomatch ha⟩
        | outN => exact ⟨[], r, by simp, fun a ha => nomatch ha⟩
      | ct ρ' => cases e
      | rt d' =>
        cases e
        intro v g' H' s' l' rv
        rw [hL] at s' l'
        exact q v H' (step_ext s') (rf_of s' l' rv)
      | ex c ρ' => cases e
  obtain ⟨t, ht, hq⟩ := hbody
  refine codeAny_call_function hR.depth (KX _ _ look) rfl S.co S.gen rfl (PySem.W.codeRec_of KX code) (hbd _ _ _ _ (wpAny_newFunctionEnv_cells S.kind hks fun env he s1 xs => ?_))
  subst he
  have I := inv_start (CX := CX0) (E := fun _ _ _ => False) S hR.hd e0 hl rv xs
  refine ⟨hNL.keeps xs.toInCall.keep, codeAny_func (wpAny_mono (ht.run [] s1 (L2.start N vs) H _ I hq) (fun fl s' hs => ?_) fun e s' hs => hs)⟩
  cases fl with
  | next =>
    obtain ⟨σ', H', J, qn⟩ := hs
    exact ⟨V.non, H', J.os, J.bare, J.base, J.hok, rfl, qn⟩
  | ret u =>
    obtain ⟨v, σ', H', J, ru, qr⟩ := hs
    exact ⟨v, H', J.os, J.bare, J.base, J.hok, ru, qr⟩
  | brk => exact (let ⟨_, _, _, z⟩ := hs; z : False).elim
  | cont => exact (let ⟨_, _, _, z⟩ := hs; z : False).elim
end
/-- the law's def, called with a script -/
theorem call_C {P : Program} {w : World} {K : PySem.W.Frag} {mg mb : Str → Option Value} {fa a : Addr} {fd : FuncData} {x : Str} {sp : Sp} {s₁ : Shared} {vs : List Value} {ns : List Int}
    (KX : K.In s₁.heap) (hM : s₁.heap.Ns mainGlobals mg) (hB : s₁.heap.Ns builtinsNs mb) (hbb : ∀ x : Str, x ≠ "__name__" → mb x = bootBuiltins x) (hN : s₁.heap.NoLimit) (hg : s₁.gens = #[])
    (ha : s₁.heap.get? a = some { cls := .type "list", data := .seq vs.toArray }) (hi : IntsAre vs ns) (hl : ns.length ≤ sizeLine)
    (F : ∀ base : Heap, K.In base → base.Ns mainGlobals mg → OkC P w K mg base fa fd [x] sp) (hbd : ∀ (s : Shared) (u : Value), BindsTo s fd ⟨[u], []⟩ [(x, u)])
    (hsp : ∀ H : Hp, Only H → SqL K H a (ns.map V.int) → sp [.ref a] H (fun v _ => v = .bl true) fun _ _ _ => False) :
    codeAny (model P w) callerA (.call (.ref fa) ⟨[.ref a], []⟩) (fun r s' => r = .ok (.ret (.bool true)) ∧ OldK s₁.heap s'.heap ∧ s'.os = s₁.os ∧ AllBare s'.gens) s₁ := by
  have rv := vals_ints hi
  -- a heap that tracks at most the script
  have hH : ∃ H : Hp, Only H ∧ SqL K H a (ns.map V.int) ∧ HOk P w H s₁.heap ∧ ∀ b, H b ≠ none → b = a ∧ K.lookup a = none := by
    cases hk : K.lookup a with
    | some o =>
      have e := KX a o hk
      rw [ha] at e
      obtain rfl := (Option.some.inj e).symm
      refine ⟨fun _ => none, fun _ => .inl rfl, .inr ⟨_, vs.toArray, _, hk, rfl, rfl, rfl, ?_, by simpa using rv⟩, fun b u z => ?_, fun b z => absurd rfl z⟩
      · rw [List.size_toArray, hi.length]; exact hl
      · exact absurd (show (none : Option HO) = some u from z) (by simp)
    | none =>
      let ob : Obj := { cls := .type "list", data := .seq vs.toArray }
      have at_ : (fun b => if b = a then some (HO.frz ob (.lst (ns.map V.int))) else none : Hp) a = some (.frz ob (.lst (ns.map V.int))) := if_pos rfl
      have off : ∀ {b : Addr}, b ≠ a → (fun b => if b = a then some (HO.frz ob (.lst (ns.map V.int))) else none : Hp) b = none := fun hb => if_neg hb
      refine ⟨fun b => if b = a then some (.frz ob (.lst (ns.map V.int))) else none, fun b => ?_, .inl (.inr ⟨ob, at_⟩), fun b u z => ?_, fun b z => ⟨?_, rfl⟩⟩
      · rcases Decidable.em (b = a) with hb | hb
        · subst hb; exact .inr ⟨_, _, at_⟩
        · exact .inl (off hb)
      · rcases Decidable.em (b = a) with hb | hb
        · subst hb
          obtain rfl := Option.some.inj (at_.symm.trans z)
          exact ⟨ha, by rw [List.length_map]; exact hl, vs, _, rv, ha⟩
        · exact absurd ((off hb).symm.trans z) (by simp)
      · rcases Decidable.em (b = a) with hb | hb
        · exact hb
        · exact absurd (off hb) z
  obtain ⟨H, hO, hS, hok, hA⟩ := hH
  have free : ∀ {b : Addr} {o : Obj}, s₁.heap.get? b = some o → (∀ es ep, o.data = .dict es ep → True) → (b ≠ a ∨ K.lookup a ≠ none) → (hidT s₁.heap H).get? b = some o := fun {b o} e _ h => hidT_get e (by
    cases q : H b with
    | none => rfl
    | some u =>
      have := hA b (by rw [q]; simp)
      rcases h with h | h
      · exact absurd this.1 h
      · exact absurd this.2 h)
  have ns_ : ∀ {b : Addr} {m : Str → Option Value}, s₁.heap.Ns b m → (hidT s₁.heap H).Ns b m := by
    rintro b m ⟨o, es, ep, e, d, r⟩
    refine ⟨o, es, ep, free e (fun _ _ _ => trivial) (.inl fun z => ?_), d, r⟩
    subst z
    rw [ha] at e
    obtain rfl := Option.some.inj e
    cases (show Data.seq vs.toArray _ = Data.dict es ep from d)
  have hK : K.In (hidT s₁.heap H) := fun b o e => free (KX b o e) (fun _ _ _ => trivial) (by
    rcases Decidable.em (b = a) with hb | hb
    · subst hb; exact .inr (by rw [e]; simp)
    · exact .inl hb)
  have e0 : Env0 P w K mg (hidT s₁.heap H) callerA [] s₁ H := by
    refine ⟨rfl, ⟨hK, ns_ hM, ⟨mb, ns_ hB, hbb⟩, ?_⟩, fun b o e => of_hidT e, Nat.le_of_eq (hidT_size _ _), trivial, fun b hb => ?_, hok, .of_eq hg⟩
    · obtain ⟨mc, h1, h2⟩ := hN
      exact ⟨mc, ns_ h1, h2⟩
    · exact absurd (show b ∈ ([] : List Addr) from hb) (by simp)
  refine codeAny_mono (F _ hK (ns_ hM) s₁ H [.ref a] [.ref a] _ e0 (hbd s₁ (.ref a)) (.cons rfl .nil) (hsp H hO hS)) ?_
  intro r s' h
  match r, h with
  | .error e, h => exact h.elim
  | .ok .next, h => exact h.elim
  | .ok .brk, h => exact h.elim
  | .ok .cont, h => exact h.elim
  | .ok (.ret u), h =>
    obtain ⟨v, H', os, bare, un, hok', r', q⟩ := h
    obtain rfl : v = .bl true := q
    obtain rfl : u = Value.bool true := r'
    refine ⟨rfl, OldK.of_keep fun b o e => ?_, os, bare⟩
    cases q : H b with
    | none => exact un.keep b o e q (by intro z; exact absurd (show b ∈ ([] : List Addr) from z) (by simp)) (by simp)
    | some u =>
      rcases hO b with z | ⟨ob, xs, z⟩
      · rw [q] at z; cases z
      · have k1 := (hok b _ z).1
        have k2 := (hok' b _ (un.frzs b ob _ z)).1
        rw [e] at k1; cases k1
        exact k2
/-- the end: a law whose tree is True at every script -/
theorem walk_VC {l : PySem.W.OpenLaw} {n : Nat} {q : Program} {loose : List Str} {XP : (Str → Option Value) → Heap → Prop} {YP : World → Heap → Prop} {d : DefRec} {x : Str} {sem : List D → Option Res} {R : Rm}
    (hn : l.most = some n) (hn2 : n ≤ sizeLine) (hdf : d.params.defaults = [])
    (hs : ∀ ns : List Int, ns.length ≤ n → (∀ z ∈ ns, Builtin.Int.intBits z ≤ 1048576) → sem [.scr (ns.map D.int)] = some (.ret (.bl true)))
    (F : ∀ (w : World) (mg : Str → Option Value) (fa : Addr) (h : Heap), YP w h → h.Ns mainGlobals mg → mg d.name = some (.ref fa) →
      ∃ (K : PySem.W.Frag) (fd : FuncData), K.In h ∧ (∀ (s : Shared) (u : Value), BindsTo s fd ⟨[u], []⟩ [(x, u)]) ∧
        ∀ base : Heap, K.In base → base.Ns mainGlobals mg → OkC l.prog w K mg base fa fd [x] (sp0 ⟨mg, K⟩ sem 1 R)) :
    PySem.W.WalkO q loose XP YP l.row.toRowW d [] (fun f vs => PySem.call f vs) := by
  refine Att.attach_callB hn hdf fun w s₀ s₁ mg mb fa o pm cd doc a vs ns G Y ho hd hcd hmg hobj hints hlen hbits hg => ?_
  obtain ⟨K, fd, KX, hb, hF⟩ := F w mg fa _ Y G.T.g hmg
  refine call_C KX G.T.g G.T.b G.T.builtins G.T.nolimit hg hobj hints (Nat.le_trans hlen hn2) hF hb fun H hO hS => ?_
  exact ⟨rfl, _, [], _, scr_rep (mg := ⟨mg, K⟩) hS hO, hs ns hlen hbits, fun v H' _ r => rf_bl r⟩
end VV

/-! ## VTx -/
/-! texts read: startswith, split, int(text), text[i], a sign in a text, the signs of a text -/
namespace VV
open PySem PySem.Spec PyProof.Rows L2
section
variable {X : Cx} {LL : List Nat} {Γ : List Kd} {pos apos p : Pos} {a b tg e : Expr} {sa sb se : Ev} {ma mb m : Md}
end
end VV

/-! ## VFdefs -/
/-! the trees of the defs that the laws of drawings and openings share (printed by gen.py) -/
namespace VP
open PySem PySem.Spec PyProof.Rows L2 VV VP

end VP

/-! ## VFA -/
/-! the law's numbers; words; mixing up -/
namespace VP
open PySem PySem.Spec PyProof.Rows L2 VV VP


end VP

/-! ## VFB -/
/-! while; ==; mixing up; drawings -/
namespace VV
open PySem PySem.Spec PyProof.Rows L2
section
variable {ρ : List D} {b : Sv} {c : List D → Option Bool} {Q : Out → Prop}
end
section
variable {α : Type} [DecidableEq α]
/-- trees of which == tells whether they are the same -/
def Eqv (x : α → D) : Prop := ∀ a b, (x a).eqv (x b) = decide (a = b)
theorem Eqv.all {x : α → D} (h : Eqv x) : ∀ l m : List α, PyData.eqvAll (D.toPL (l.map x)) (D.toPL (m.map x)) = decide (l = m)
  | [], [] => by simp [D.toPL, PyData.eqvAll]
  | [], _ :: _ => by simp [D.toPL, PyData.eqvAll]
  | _ :: _, [] => by simp [D.toPL, PyData.eqvAll]
  | a :: l, b :: m => by
    have h1 := h a b
    unfold D.eqv at h1
    simp only [List.map_cons, D.toPL, PyData.eqvAll, h1, Eqv.all h l m]
    by_cases e : a = b <;> by_cases e2 : l = m <;> simp [e, e2]
theorem Eqv.lst {x : α → D} (h : Eqv x) : Eqv fun l : List α => D.lst (l.map x) := fun l m => by
  show PyData.eqv (D.toP (.lst (l.map x))) (D.toP (.lst (m.map x))) = _
  simp only [D.toP, PyData.eqv]
  exact h.all l m
theorem Eqv.tup {x : α → D} (h : Eqv x) : Eqv fun l : List α => D.tup (l.map x) := fun l m => by
  show PyData.eqv (D.toP (.tup (l.map x))) (D.toP (.tup (m.map x))) = _
  simp only [D.toP, PyData.eqv]
  exact h.all l m
theorem Eqv.int : Eqv D.int := fun a b => by
  show PyData.eqv (D.toP (.int a)) (D.toP (.int b)) = _
  simp only [D.toP, PyData.eqv]
  exact beq_dec a b
theorem ne_of_eqv {x : α → D} (h : Eqv x) {n : Nat} {a b : α} (ha : VP.Ok n (x a)) (hb : VP.Ok n (x b)) (hn : n ≤ 64) : dNe [x a, x b] = some (.bl (decide (a ≠ b))) := by
  unfold dNe
  dsimp only
  rw [ha.shd hn, hb.shd hn, h a b]
  simp
theorem eq_of_eqv {x : α → D} (h : Eqv x) {n : Nat} {a b : α} (ha : VP.Ok n (x a)) (hb : VP.Ok n (x b)) (hn : n ≤ 64) : dEq [x a, x b] = some (.bl (decide (a = b))) := by
  unfold dEq
  dsimp only
  rw [ha.shd hn, hb.shd hn, h a b]
  simp
end
section
variable {i j : Nat} {se ke ve : Ev} {ρ ρ1 ρ2 : List D} {t u : Tv} {a b d d1 y z x xl yl k : D} {p : D × D}
end
end VV
namespace VP
open PySem PySem.Spec PyProof.Rows L2 VV VP
end VP

/-! ## VFC -/
/-! joining of names: roots; drawings: ends, pairs -/
namespace VP
open PySem PySem.Spec PyProof.Rows L2 VV VP

/-! ### classes -/
inductive Eqn (Ps : List (Int × Int)) : Int → Int → Prop
  | gen {p : Int × Int} : p ∈ Ps → Eqn Ps p.1 p.2
  | refl (n : Int) : Eqn Ps n n
  | symm {n m : Int} : Eqn Ps n m → Eqn Ps m n
  | trans {n m k : Int} : Eqn Ps n m → Eqn Ps m k → Eqn Ps n k
/-- each name's least one of its class -/
structure IsRt (Ps : List (Int × Int)) (rt : Int → Int) : Prop where
  pr : ∀ p ∈ Ps, rt p.1 = rt p.2
  eq : ∀ n, Eqn Ps n (rt n)
  le : ∀ n, rt n ≤ n
/-- one pair more -/
def joinR (rt : Int → Int) (x y : Int) : Int → Int := fun n => if rt n = max (rt x) (rt y) then min (rt x) (rt y) else rt n
/-- the heads stand for the classes -/
structure Heads (N : List Int) (h rt : Int → Int) : Prop where
  mem : ∀ n ∈ N, h n ∈ N
  le : ∀ n ∈ N, h n ≤ n
  rh : ∀ n ∈ N, rt (h n) = rt n
  fix : ∀ n ∈ N, h n = n → rt n = n
  hr : ∀ n ∈ N, h (rt n) = rt n
  rm : ∀ n ∈ N, rt n ∈ N

/-! ### the dict of heads -/
def kI (n : Int) : Ky := .k (.inl n)
def mD (N : List Int) (h : Int → D) : D := .dic false (N.map kI) (N.map h)
theorem kI_inj {a b : Int} (e : kI a = kI b) : a = b := by cases e; rfl
theorem lk_m {N : List Int} {h : Int → D} {n : Int} (hn : n ∈ N) : lkD (N.map kI) (N.map h) (kI n) = some (h n) := by
  induction N with
  | nil => cases hn
  | cons a r ih =>
    simp only [List.map_cons, lkD, List.zip_cons_cons, List.find?_cons]
    by_cases e : a = n
    · subst e; simp
    · have : ¬ kI a = kI n := fun z => e (kI_inj z)
      simp only [this, decide_false]
      exact ih ((List.mem_cons.mp hn).elim (fun z => absurd z.symm e) id)
@[simp] theorem get_m {N : List Int} {h : Int → D} {n : Int} (hn : n ∈ N) : dGet [mD N h, .int n] = some (h n) := by
  unfold mD
  rw [dGet_s]
  exact lk_m hn
end VP

/-! ## VFE -/
/-! drawings: names, openings, pairs, loops -/
namespace VP
open PySem PySem.Spec PyProof.Rows L2 VV VP
/-- a crossing: its sign, under in, under out, over in, over out -/
structure Cr where
  (s a b c d : Int)
  deriving DecidableEq
def crD (x : Cr) : D := .tup [.int x.s, .int x.a, .int x.b, .int x.c, .int x.d]
def intsD (l : List Int) : D := .lst (l.map D.int)
def drD (rs : List Int) (cs : List Cr) : D := .tup [intsD rs, .lst (cs.map crD)]
def insC (cs : List Cr) : List Int := cs.flatMap fun x => [x.a, x.c]
def outsC (cs : List Cr) : List Int := cs.flatMap fun x => [x.b, x.d]
@[simp] theorem cr_flat {x : Cr} : (crD x).isFlat = true := by simp [crD]
@[simp] theorem dr0 {rs : List Int} {cs : List Cr} : dIdx [drD rs cs, .int 0] = some (intsD rs) := by simp [drD]
@[simp] theorem dr1 {rs : List Int} {cs : List Cr} : dIdx [drD rs cs, .int 1] = some (.lst (cs.map crD)) := by simp [drD]
@[simp] theorem cr0 {x : Cr} : dIdx [crD x, .int 0] = some (.int x.s) := by simp [crD]
@[simp] theorem cr1 {x : Cr} : dIdx [crD x, .int 1] = some (.int x.a) := by simp [crD]
@[simp] theorem cr2 {x : Cr} : dIdx [crD x, .int 2] = some (.int x.b) := by simp [crD]
@[simp] theorem cr3 {x : Cr} : dIdx [crD x, .int 3] = some (.int x.c) := by simp [crD]
@[simp] theorem cr4 {x : Cr} : dIdx [crD x, .int 4] = some (.int x.d) := by simp [crD]

/-! ### sorted -/
theorem catF_ints {l r : List Int} (h : l.length + r.length ≤ 1000000) : dCatF [intsD l, intsD r] = some (intsD (l ++ r)) := by
  unfold intsD dCatF
  dsimp only
  rw [if_pos ?_]
  · simp
  · simp; omega
@[simp] theorem kf_ints {l : List Int} : (intsD l).kidsFlat = true := by simp [intsD]

/-! ### openings, pairs -/
def bitsD (l : List Int) : D := .tup (l.map D.int)
end VP

/-! ## VFG -/
/-! the loops of an opening -/
namespace VP
open PySem PySem.Spec PyProof.Rows L2 VV VP
section
variable {K : List Int} {F : Int → D} {n : Int} {l : List D} {y : D}
end
section
variable {rs : List Int} {cs : List Cr} {bs : List Int} (hnd : (rs ++ insC cs).Nodup) (hcl : ∀ x ∈ cs, x.b ∈ rs ++ insC cs ∧ x.d ∈ rs ++ insC cs) (hl : rs.length + 2 * cs.length < 64) (hb : bs.length = cs.length) (hb01 : ∀ b ∈ bs, b = 0 ∨ b = 1)
include hcl in
include hnd hcl hl hb hb01
end
end VP

/-! ## VFH -/
/-! drawings that are good; the closing of a word, plain -/
namespace VP
open PySem PySem.Spec PyProof.Rows L2 VV VP
/-- two colours of the names: at a crossing in turn -/
def ColX (col : Int → Bool) (x : Cr) : Prop := col x.b = !col x.a ∧ col x.c = col x.b ∧ col x.d = col x.a
structure Good (rs : List Int) (cs : List Cr) : Prop where
  nd : (rs ++ insC cs).Nodup
  op : (outsC cs).Perm (insC cs)
  col : ∃ col : Int → Bool, ∀ x ∈ cs, ColX col x
  sg : ∀ x ∈ cs, x.s = 1 ∨ x.s = -1
def rg (m : Nat) : List Int := (List.range m).map fun i : Nat => (i : Int)
/-- a word so far -/
structure Brd (n i : Nat) (here : List Int) (cs : List Cr) : Prop where
  ln : here.length = n
  cn : cs.length = i
  ih : (insC cs ++ here).Perm (rg (n + 2 * i))
  ou : ∀ z, z ∈ outsC cs ↔ (n : Int) ≤ z ∧ z < n + 2 * i
  on : (outsC cs).Nodup
  st : ∀ (j : Nat) (v : Int), here[j]? = some v → v < n → v = (j : Nat)
  co : ∃ col : Int → Bool, (∀ (j : Nat) (v : Int), here[j]? = some v → col v = decide (j % 2 = 1)) ∧ (∀ j : Nat, j < n → col j = decide (j % 2 = 1)) ∧ ∀ x ∈ cs, ColX col x
  sg : ∀ x ∈ cs, x.s = 1 ∨ x.s = -1
end VP

/-! ## VFI -/
/-! the closing of a word: good; what the program's law makes -/
namespace VP
open PySem PySem.Spec PyProof.Rows L2 VV VP
end VP

/-! ## VFJ -/
/-! the closing of a word: the law's own function -/
namespace VP
open PySem PySem.Spec PyProof.Rows L2 VV VP
theorem chk_cr {x : Cr} : (some (crD x)).filter D.isTup = some (crD x) := rfl
end VP

/-! ## VFK -/
/-! a curl put in, plain -/
namespace VP
open PySem PySem.Spec PyProof.Rows L2 VV VP
end VP

/-! ## VFL -/
/-! a curl: the law's own function -/
namespace VP
open PySem PySem.Spec PyProof.Rows L2 VV VP
theorem list4 {x : Cr} : dList [.tup [.int x.a, .int x.b, .int x.c, .int x.d]] = some (intsD [x.a, x.b, x.c, x.d]) := rfl
end VP

/-! ## VFM -/
/-! other names, other orders; the drawing of a law -/
namespace VP
open PySem PySem.Spec PyProof.Rows L2 VV VP
/-- the names given so far -/
structure Nmd (K : List Int) (sg : Int) (φ : Int → Int) : Prop where
  nd : K.Nodup
  vl : ∀ (j : Nat) (n : Int), K[j]? = some n → ∃ r : Int, 0 ≤ r ∧ r < 1009 ∧ φ n = (1000000000 * r + j) * sg
end VP

/-! ## VFN -/
/-! the drawing of a law -/
namespace VP
open PySem PySem.Spec PyProof.Rows L2 VV VP
end VP

/-! ## VFP -/
/-! sorted lists of lists; which loops -/
namespace VP
open PySem PySem.Spec PyProof.Rows L2 VV VP
theorem ints_ok {l : List Int} : Ok 1 (intsD l) := Ok.lst fun a _ => Ok.int
theorem eqv_rows : Eqv fun L : List (List Int) => D.lst (L.map intsD) := Eqv.lst (x := intsD) (Eqv.lst Eqv.int)
theorem rows_ok {L : List (List Int)} : Ok 2 (D.lst (L.map intsD)) := Ok.lst fun a _ => ints_ok
theorem eq_rows {L M : List (List Int)} : dEq [.lst (L.map intsD), .lst (M.map intsD)] = some (.bl (decide (L = M))) := eq_of_eqv (x := fun L : List (List Int) => D.lst (L.map intsD)) eqv_rows rows_ok rows_ok (by decide)

/-! ### by other names -/
end VP

/-! ## VFdefs2 -/
/-! the trees of the law's own ends, bits, loops (printed by gen.py) -/
namespace VP
open PySem PySem.Spec PyProof.Rows L2 VV VP

end VP

/-! ## VFdefs3 -/
/-! the program's leads and the law's own, as trees -/
namespace VP
open PySem PySem.Spec PyProof.Rows L2 VV
end VP

/-! ## VFdefs4 -/
/-! words and tables, as trees -/
namespace VP
open PySem PySem.Spec PyProof.Rows L2 VV
end VP

/-! ## VQdefs -/
namespace VQ
open PySem PySem.Spec PyProof.Rows L2 VV VP

end VQ

/-! ## VQdefs2 -/
namespace VQ
open PySem PySem.Spec PyProof.Rows L2 VV VP

def m_is_whole : Sv := (sRet (vAnd (eP (dIsi "int") (aCons (eVar 0) aNil)) (vNot (eP (dIsi "bool") (aCons (eVar 0) aNil)))))
def f_is_whole : List D → Option Res := fnSem 1 [.lab none [0] false] m_is_whole
end VQ

/-! ## VQdefs3 -/
/-! where words of known tuples lead, tables due, as trees -/
namespace VQ
open PySem PySem.Spec PyProof.Rows L2 VV
open VP
end VQ

/-! ## VQdefs4 -/
/-! the trees of the class Sheet (printed) -/
namespace VQ
open PySem PySem.Spec PyProof.Rows L2 VV VP
end VQ

/-! ## VQdefs5 -/
/-! the trees of is_drawing, named_anew and closing (printed) -/
namespace VQ
open PySem PySem.Spec PyProof.Rows L2 VV VP
end VQ

/-! ## VQdefs6 -/
/-! the trees of the laws own flat (printed) -/
namespace VQ
open PySem PySem.Spec PyProof.Rows L2 VV VP
end VQ

/-! ## VQdefs7 -/
/-! the tree of the laws own _law_same (printed) -/
namespace VQ
open PySem PySem.Spec PyProof.Rows L2 VV VP
end VQ

/-! ## VQdefs8 -/
/-! the trees of beside (printed) -/
namespace VQ
open PySem PySem.Spec PyProof.Rows L2 VV VP
end VQ

/-! ## VQdefs9 -/
/-! the trees of mirrored, turned_about (printed) -/
namespace VQ
open PySem PySem.Spec PyProof.Rows L2 VV VP
end VQ

/-! ## VQdefs10 -/
/-! the trees of strand_at, _law_begins, _law_slide, parts of strands_of, slid, face_at (printed by mkdefs10.py) -/
namespace VQ
open PySem PySem.Spec PyProof.Rows L2 VV VP
end VQ

/-! ## K01s -/
namespace K01
open PySem PySem.Spec PyProof.Rows L2 VV
open VP
open VQ

def m__law_copy_e1 : Ev := (eChk D.kidsFlat (eP dList (aCons (eVar 1) aNil)))
def m__law_copy : Sv := (sRet (eTup (aCons (eChk D.isFlat (eP dIdx (aCons (eVar 0) (aCons (eC (.int 0)) aNil)))) (aCons (eChk D.isFlat (eP dIdx (aCons (eVar 0) (aCons (eC (.int 1)) aNil)))) (aCons (eLc (iLst (eP dIdx (aCons (eVar 0) (aCons (eC (.int 2)) aNil)))) (gN 1) cYes m__law_copy_e1) aNil)))))
def f__law_copy : List D → Option Res := fnSem 2 [.lab none [0] false] m__law_copy
def m__law_spoiled_c1 : Sv := (sRet (eTup (aCons (eP dSub (aCons (eP dAdd (aCons (eVar 2) (aCons (eC (.int 1)) aNil))) (aCons (eP dMul (aCons (eC (.int 2)) (aCons (eVar 5) aNil))) aNil))) (aCons (eVar 3) (aCons (eVar 4) aNil)))))
def m__law_spoiled_c2 : Sv := (sRet (eTup (aCons (eVar 2) (aCons (eP dSub (aCons (eP dAdd (aCons (eVar 3) (aCons (eC (.int 5)) aNil))) (aCons (eP dMul (aCons (eC (.int 2)) (aCons (eVar 5) aNil))) aNil))) (aCons (eVar 4) aNil)))))
def m__law_spoiled_c3 : Sv := (sRet (eTup (aCons (eP dAdd (aCons (eVar 2) (aCons (eC (.int 1)) aNil))) (aCons (eVar 3) (aCons (eP dCat (aCons (eVar 4) (aCons (eLst (aCons (eP dRep (aCons (eLst (aCons (eC (.int 0)) aNil)) (aCons (eVar 3) aNil))) aNil)) aNil))) aNil)))))
def m__law_spoiled_c4 : Sv := (sRet (eTup (aCons (eVar 2) (aCons (eVar 3) (aCons (eP dTuple (aCons (eVar 4) aNil)) aNil)))))
def m__law_spoiled_c5 : Sv := (sPut lPut 4 (eVar 6) (eP dCatF (aCons (eP dIdx (aCons (eVar 4) (aCons (eVar 6) aNil))) (aCons (eLst (aCons (eChk D.isFlat (eP dIdx (aCons (eVar 1) (aCons (eC (.int 2)) aNil)))) aNil)) aNil))))
def m__law_spoiled_c6 : Sv := (sPut lPut 4 (eVar 6) (eChk D.kidsFlat (eSl (eChk D.isLst (eP dIdx (aCons (eVar 4) (aCons (eVar 6) aNil)))) (oSome (eC (.int 1))) oNone)))
def m__law_spoiled_c7 : Sv := (sPut lPut 4 (eVar 6) (eChk D.isFlat (eP dTuple (aCons (eP dIdx (aCons (eVar 4) (aCons (eVar 6) aNil))) aNil))))
def m__law_spoiled_c8 : Sv := (sPutAtT 4 (eVar 6) (eP dMod (aCons (eChk D.isFlat (eP dIdx (aCons (eVar 1) (aCons (eC (.int 2)) aNil)))) (aCons (eVar 3) aNil))) (eP dIdx (aCons (eLst (aCons (eC .non) (aCons (eC (.bl true)) (aCons (eC (.bl false)) (aCons (eC (.str (PySem.Str.ofString "0"))) (aCons (eC (.int 0)) (aCons (eP dNeg (aCons (eC (.int 1)) aNil)) (aCons (eLst aNil) (aCons (eTup (aCons (eC (.int 0)) aNil)) aNil))))))))) (aCons (eP dMod (aCons (eChk D.isFlat (eP dIdx (aCons (eVar 1) (aCons (eC (.int 3)) aNil)))) (aCons (eC (.int 8)) aNil))) aNil))))
def m__law_spoiled_11 : Sv := (sRet (eTup (aCons (eVar 2) (aCons (eVar 3) (aCons (eVar 4) aNil)))))
def m__law_spoiled_10 : Sv := (sSeq (sIf (wAnd (tOf (eP dEq (aCons (eVar 5) (aCons (eC (.int 8)) aNil)))) (tOf (eP dGt (aCons (eVar 3) (aCons (eC (.int 0)) aNil))))) m__law_spoiled_c8 sNil) m__law_spoiled_11)
def m__law_spoiled_9 : Sv := (sSeq (sIf (tOf (eP dEq (aCons (eVar 5) (aCons (eC (.int 7)) aNil)))) m__law_spoiled_c7 sNil) m__law_spoiled_10)
def m__law_spoiled_8 : Sv := (sSeq (sIf (tOf (eP dEq (aCons (eVar 5) (aCons (eC (.int 6)) aNil)))) m__law_spoiled_c6 sNil) m__law_spoiled_9)
def m__law_spoiled_7 : Sv := (sSeq (sIf (tOf (eP dEq (aCons (eVar 5) (aCons (eC (.int 5)) aNil)))) m__law_spoiled_c5 sNil) m__law_spoiled_8)
def m__law_spoiled_6 : Sv := (sSeq (sSet 6 (eP dMod (aCons (eChk D.isFlat (eP dIdx (aCons (eVar 1) (aCons (eC (.int 1)) aNil)))) (aCons (eVar 2) aNil)))) m__law_spoiled_7)
def m__law_spoiled_5 : Sv := (sSeq (sIf (tOf (eP dEq (aCons (eVar 4) (aCons (eLst aNil) aNil)))) m__law_spoiled_c4 sNil) m__law_spoiled_6)
def m__law_spoiled_4 : Sv := (sSeq (sIf (tOf (eP dEq (aCons (eVar 5) (aCons (eC (.int 4)) aNil)))) m__law_spoiled_c3 sNil) m__law_spoiled_5)
def m__law_spoiled_3 : Sv := (sSeq (sIf (tOf (eP dLt (aCons (eVar 5) (aCons (eC (.int 4)) aNil)))) m__law_spoiled_c2 sNil) m__law_spoiled_4)
def m__law_spoiled_2 : Sv := (sSeq (sIf (tOf (eP dLt (aCons (eVar 5) (aCons (eC (.int 2)) aNil)))) m__law_spoiled_c1 sNil) m__law_spoiled_3)
def m__law_spoiled_1 : Sv := (sSeq (sSet 5 (eP dMod (aCons (eChk D.isFlat (eP dIdx (aCons (eVar 1) (aCons (eC (.int 0)) aNil)))) (aCons (eC (.int 9)) aNil)))) m__law_spoiled_2)
def m__law_spoiled : Sv := (sSeq (sAsgU (gsCons (gF (gN 2)) (gsCons (gF (gN 3)) (gsCons (gN 4) gsNil))) (eCall f__law_copy (aCons (eVar 0) aNil))) m__law_spoiled_1)
def f__law_spoiled : List D → Option Res := fnSem 7 [.lab none [0] false, .lab none [0] false] m__law_spoiled
def m__law_odd_5 : Sv := (sRet (eP dIdx (aCons (eP dCat (aCons (eVar 1) (aCons (eLst (aCons (eTup (aCons (eC (.int 1)) (aCons (eC (.int 1)) (aCons (eC (.str (PySem.Str.ofString "1"))) aNil)))) (aCons (eTup (aCons (eC (.int 1)) (aCons (eC (.int 1)) (aCons (eC (.int 1)) aNil)))) (aCons (eTup (aCons (eC (.int 1)) (aCons (eC (.int 1)) (aCons (eLst (aCons (eC (.int 1)) aNil)) aNil)))) (aCons (eTup (aCons (eC (.int 2)) (aCons (eC (.int 2)) (aCons (eLst (aCons (eLst (aCons (eC (.int 1)) (aCons (eC (.int 2)) aNil))) (aCons (eLst (aCons (eC (.int 3)) aNil)) aNil))) aNil)))) (aCons (eTup (aCons (eC (.int 0)) (aCons (eC (.int 0)) (aCons (eTup aNil) aNil)))) aNil)))))) aNil))) (aCons (eP dMod (aCons (eVar 0) (aCons (eC (.int 36)) aNil))) aNil))))
def m__law_odd_4 : Sv := (sSeq (sSet 1 (eP dCat (aCons (eVar 1) (aCons (eLst (aCons (eTup (aCons (eC (.int 1)) (aCons (eC (.int 1)) (aCons (eLst (aCons (eLst (aCons (eC .non) aNil)) aNil)) aNil)))) (aCons (eTup (aCons (eC (.int 1)) (aCons (eC (.int 1)) (aCons (eLst (aCons (eLst (aCons (eC (.str (PySem.Str.ofString "1"))) aNil)) aNil)) aNil)))) (aCons (eTup (aCons (eC (.int 1)) (aCons (eC (.int 1)) (aCons (eLst (aCons (eLst (aCons (eLst (aCons (eC (.int 1)) aNil)) aNil)) aNil)) aNil)))) (aCons (eTup (aCons (eC (.str (PySem.Str.ofString "1"))) (aCons (eC (.int 1)) (aCons (eLst (aCons (eLst (aCons (eC (.int 1)) aNil)) aNil)) aNil)))) (aCons (eTup (aCons (eC (.int 1)) (aCons (eC .non) (aCons (eLst (aCons (eLst (aCons (eC (.int 1)) aNil)) aNil)) aNil)))) (aCons (eTup (aCons (eC (.int 1)) (aCons (eC (.int 1)) (aCons (eC .non) aNil)))) aNil))))))) aNil)))) m__law_odd_5)
def m__law_odd_3 : Sv := (sSeq (sSet 1 (eP dCat (aCons (eVar 1) (aCons (eLst (aCons (eTup (aCons (eC (.int 1)) (aCons (eC (.bl true)) (aCons (eLst (aCons (eLst (aCons (eC (.int 1)) aNil)) aNil)) aNil)))) (aCons (eTup (aCons (eC (.int 1)) (aCons (eC (.int 1)) (aCons (eLst (aCons (eLst (aCons (eC (.bl true)) aNil)) aNil)) aNil)))) (aCons (eTup (aCons (eC (.int 1)) (aCons (eC (.int 1)) (aCons (eLst (aCons (eTup (aCons (eC (.int 1)) aNil)) aNil)) aNil)))) (aCons (eTup (aCons (eC (.int 1)) (aCons (eC (.int 1)) (aCons (eTup (aCons (eLst (aCons (eC (.int 1)) aNil)) aNil)) aNil)))) (aCons (eTup (aCons (eC (.int 2)) (aCons (eC (.int 1)) (aCons (eLst (aCons (eLst (aCons (eC (.int 1)) aNil)) aNil)) aNil)))) (aCons (eTup (aCons (eC (.int 1)) (aCons (eC (.int 2)) (aCons (eLst (aCons (eLst (aCons (eC (.int 1)) aNil)) aNil)) aNil)))) aNil))))))) aNil)))) m__law_odd_4)
def m__law_odd_2 : Sv := (sSeq (sSet 1 (eP dCat (aCons (eVar 1) (aCons (eLst (aCons (eTup (aCons (eC (.int 3)) (aCons (eC (.int 0)) (aCons (eLst (aCons (eLst aNil) (aCons (eLst aNil) (aCons (eLst aNil) aNil)))) aNil)))) (aCons (eTup (aCons (eC (.int 0)) (aCons (eC (.int 0)) (aCons (eLst (aCons (eLst aNil) aNil)) aNil)))) (aCons (eTup (aCons (eC (.int 1)) (aCons (eC (.int 0)) (aCons (eLst aNil) aNil)))) (aCons (eTup (aCons (eP dNeg (aCons (eC (.int 1)) aNil)) (aCons (eC (.int 1)) (aCons (eLst aNil) aNil)))) (aCons (eTup (aCons (eC (.int 0)) (aCons (eP dNeg (aCons (eC (.int 1)) aNil)) (aCons (eLst aNil) aNil)))) (aCons (eTup (aCons (eC (.bl true)) (aCons (eC (.int 1)) (aCons (eLst (aCons (eLst (aCons (eC (.int 1)) aNil)) aNil)) aNil)))) aNil))))))) aNil)))) m__law_odd_3)
def m__law_odd_1 : Sv := (sSeq (sSet 1 (eP dCat (aCons (eVar 1) (aCons (eLst (aCons (eTup (aCons (eC (.int 0)) (aCons (eC (.int 5)) (aCons (eLst aNil) aNil)))) aNil)) aNil)))) m__law_odd_2)
def m__law_odd : Sv := (sSeq (sSet 1 (eLst (aCons (eC .non) (aCons (eC (.int 3)) (aCons (eC (.str (PySem.Str.ofString "t"))) (aCons (eC (.str (PySem.Str.ofString ""))) (aCons (eLst aNil) (aCons (eTup aNil) (aCons (eC (.bl true)) (aCons (eTup (aCons (eC (.int 1)) (aCons (eC (.int 1)) (aCons (eLst (aCons (eLst (aCons (eC (.int 1)) aNil)) aNil)) aNil)))) (aCons (eLst (aCons (eC (.int 1)) (aCons (eC (.int 1)) (aCons (eLst (aCons (eLst (aCons (eC (.int 1)) aNil)) aNil)) aNil)))) (aCons (eTup (aCons (eC (.int 1)) (aCons (eC (.int 1)) aNil))) (aCons (eTup (aCons (eC (.int 1)) (aCons (eC (.int 1)) (aCons (eLst (aCons (eLst (aCons (eC (.int 1)) aNil)) aNil)) (aCons (eC (.int 0)) aNil))))) (aCons (eTup (aCons (eC (.int 0)) (aCons (eC (.int 0)) (aCons (eLst aNil) aNil)))) aNil)))))))))))))) m__law_odd_1)
def f__law_odd : List D → Option Res := fnSem 2 [.flat] m__law_odd
def m_is_size : Sv := (sRet (vAnd (eCall f_is_whole (aCons (eVar 0) aNil)) (eP dGe (aCons (eVar 0) (aCons (eC (.int 0)) aNil)))))
def f_is_size : List D → Option Res := fnSem 1 [.lab none [0] false] m_is_size
def m_is_row_e1 : Ev := (eCall f_is_whole (aCons (eVar 2) aNil))
def m_is_row : Sv := (sRet (vAnd (eP (dIsi "list") (aCons (eVar 0) aNil)) (vAnd (eP dEq (aCons (eP dLen (aCons (eVar 0) aNil)) (aCons (eVar 1) aNil))) (eP dAll (aCons (eLc (iLst (eVar 0)) (gN 2) cYes m_is_row_e1) aNil)))))
def f_is_row : List D → Option Res := fnSem 3 [.lab none [0] false, .lab none [0] false] m_is_row
def m_is_table_e1 : Ev := (eCall f_is_row (aCons (eVar 4) (aCons (eVar 2) aNil)))
def m_is_table_2 : Sv := (sRet (vAnd (eP (dIsi "list") (aCons (eVar 3) aNil)) (vAnd (eP dEq (aCons (eP dLen (aCons (eVar 3) aNil)) (aCons (eVar 1) aNil))) (eP dAll (aCons (eLc (iLst (eVar 3)) (gN 4) cYes m_is_table_e1) aNil)))))
def m_is_table_1 : Sv := (sSeq (sAsg (gT (gsCons (gN 1) (gsCons (gN 2) (gsCons (gN 3) gsNil)))) (eVar 0)) m_is_table_2)
def m_is_table : Sv := (sSeq (sIf (wOr (wNot (tOf (eP (dIsi "tuple") (aCons (eVar 0) aNil)))) (wOr (tOf (eP dNe (aCons (eP dLen (aCons (eVar 0) aNil)) (aCons (eC (.int 3)) aNil)))) (wOr (wNot (tOf (eCall f_is_size (aCons (eP dIdx (aCons (eVar 0) (aCons (eC (.int 0)) aNil))) aNil)))) (wNot (tOf (eCall f_is_size (aCons (eP dIdx (aCons (eVar 0) (aCons (eC (.int 1)) aNil))) aNil))))))) (sRet (eC (.bl false))) sNil) m_is_table_1)
def f_is_table : List D → Option Res := fnSem 5 [.lab none [0] false] m_is_table
def m__law_whole : Sv := (sRet (vAnd (eP (dIsi "int") (aCons (eVar 0) aNil)) (vNot (eP (dIsi "bool") (aCons (eVar 0) aNil)))))
def f__law_whole : List D → Option Res := fnSem 1 [.lab none [0] false] m__law_whole
def m__law_is_table_b2 : Sv := (sIf (wNot (tOf (eCall f__law_whole (aCons (eVar 2) aNil)))) (sRet (eC (.bl false))) sNil)
def m__law_is_table_b1_1 : Sv := (sFor (iLst (eVar 1)) (gN 2) m__law_is_table_b2)
def m__law_is_table_b1 : Sv := (sSeq (sIf (wOr (wNot (tOf (eP (dIsi "list") (aCons (eVar 1) aNil)))) (tOf (eP dNe (aCons (eP dLen (aCons (eVar 1) aNil)) (aCons (eP dIdx (aCons (eVar 0) (aCons (eC (.int 1)) aNil))) aNil))))) (sRet (eC (.bl false))) sNil) m__law_is_table_b1_1)
def m__law_is_table_2 : Sv := (sSeq (sFor (iLst (eP dIdx (aCons (eVar 0) (aCons (eC (.int 2)) aNil)))) (gN 1) m__law_is_table_b1) (sRet (eC (.bl true))))
def m__law_is_table_1 : Sv := (sSeq (sIf (wOr (wNot (tOf (eP (dIsi "list") (aCons (eP dIdx (aCons (eVar 0) (aCons (eC (.int 2)) aNil))) aNil)))) (wOr (tOf (eP dNe (aCons (eP dLen (aCons (eP dIdx (aCons (eVar 0) (aCons (eC (.int 2)) aNil))) aNil)) (aCons (eP dIdx (aCons (eVar 0) (aCons (eC (.int 0)) aNil))) aNil)))) (tOf (eP dLt (aCons (eP dIdx (aCons (eVar 0) (aCons (eC (.int 1)) aNil))) (aCons (eC (.int 0)) aNil)))))) (sRet (eC (.bl false))) sNil) m__law_is_table_2)
def m__law_is_table : Sv := (sSeq (sIf (wOr (wNot (tOf (eP (dIsi "tuple") (aCons (eVar 0) aNil)))) (wOr (tOf (eP dNe (aCons (eP dLen (aCons (eVar 0) aNil)) (aCons (eC (.int 3)) aNil)))) (wOr (wNot (tOf (eCall f__law_whole (aCons (eP dIdx (aCons (eVar 0) (aCons (eC (.int 0)) aNil))) aNil)))) (wNot (tOf (eCall f__law_whole (aCons (eP dIdx (aCons (eVar 0) (aCons (eC (.int 1)) aNil))) aNil))))))) (sRet (eC (.bl false))) sNil) m__law_is_table_1)
def f__law_is_table : List D → Option Res := fnSem 3 [.lab none [0] false] m__law_is_table
def m_law_c1 : Sv := (sAsg (gT (gsCons (gN 2) (gsCons (gN 3) gsNil))) (eChk D.isFlat (eP dIdx (aCons (eLst (aCons (eTup (aCons (eP dMod (aCons (eChk D.isFlat (eP dIdx (aCons (eVar 1) (aCons (eC (.int 3)) aNil)))) (aCons (eC (.int 400)) aNil))) (aCons (eP dMod (aCons (eChk D.isFlat (eP dIdx (aCons (eVar 1) (aCons (eC (.int 1)) aNil)))) (aCons (eC (.int 3)) aNil))) aNil))) (aCons (eTup (aCons (eP dMod (aCons (eChk D.isFlat (eP dIdx (aCons (eVar 1) (aCons (eC (.int 1)) aNil)))) (aCons (eC (.int 3)) aNil))) (aCons (eP dMod (aCons (eChk D.isFlat (eP dIdx (aCons (eVar 1) (aCons (eC (.int 3)) aNil)))) (aCons (eC (.int 400)) aNil))) aNil))) aNil))) (aCons (eP dMod (aCons (eP dDiv (aCons (eChk D.isFlat (eP dIdx (aCons (eVar 1) (aCons (eC (.int 2)) aNil)))) (aCons (eC (.int 8)) aNil))) (aCons (eC (.int 2)) aNil))) aNil)))))
def m_law_b1_2 : Sv := (sIf (wOr (wNot (tOf (eP (dIsi "bool") (aCons (eVar 7) aNil)))) (wOr (tOf (eP dNe (aCons (eVar 7) (aCons (eCall f__law_is_table (aCons (eVar 5) aNil)) aNil)))) (tOf (eP dNeS (aCons (eP dShow (aCons (eVar 5) aNil)) (aCons (eVar 6) aNil)))))) (sRet (eC (.bl false))) sNil)
def m_law_b1_1 : Sv := (sSeq (sSet 7 (eCall f_is_table (aCons (eVar 5) aNil))) m_law_b1_2)
def m_law_b1 : Sv := (sSeq (sSet 6 (eP dShow (aCons (eVar 5) aNil))) m_law_b1_1)
def m_law_4 : Sv := (sSeq (sFor (iLst (eLst (aCons (eVar 4) (aCons (eCall f__law_spoiled (aCons (eVar 4) (aCons (eSl (eChk D.isLst (eVar 1)) (oSome (eC (.int 4))) oNone) aNil))) (aCons (eCall f__law_odd (aCons (eCall f__law_cell_at (aCons (eVar 0) (aCons (eC (.int 2)) aNil))) aNil)) aNil))))) (gN 5) m_law_b1) (sRet (eC (.bl true))))
def m_law_3 : Sv := (sSeq (sSet 4 (eCall f__law_table (aCons (eCall f__law_cell_at (aCons (eVar 0) (aCons (eC (.int 1)) aNil))) (aCons (eVar 2) (aCons (eVar 3) aNil))))) m_law_4)
def m_law_2 : Sv := (sSeq (sIf (tOf (eP dEq (aCons (eP dMod (aCons (eChk D.isFlat (eP dIdx (aCons (eVar 1) (aCons (eC (.int 2)) aNil)))) (aCons (eC (.int 8)) aNil))) (aCons (eC (.int 5)) aNil)))) m_law_c1 sNil) m_law_3)
def m_law_1 : Sv := (sSeq (sPar 2 3 (aCons (eP dMod (aCons (eChk D.isFlat (eP dIdx (aCons (eVar 1) (aCons (eC (.int 0)) aNil)))) (aCons (eC (.int 7)) aNil))) (aCons (eP dMod (aCons (eChk D.isFlat (eP dIdx (aCons (eVar 1) (aCons (eC (.int 1)) aNil)))) (aCons (eC (.int 7)) aNil))) aNil))) m_law_2)
def m_law : Sv := (sSeq (sSet 1 (eChk D.kidsFlat (eCall f__law_row (aCons (eCall f__law_cell_at (aCons (eVar 0) (aCons (eC (.int 0)) aNil))) (aCons (eC (.int 8)) (aCons (eC (.int 4096)) aNil)))))) m_law_1)
def f_law : List D → Option Res := fnSem 8 [.flat] m_law
end K01

/-! ## K01w -/
namespace K01
open PySem PySem.Spec PyProof.Rows L2 VV
open VP
open VQ

abbrev FnP (K : PySem.W.Frag) (x : Str) (st : Stmt) (f : Addr) (fd : FuncData) : Prop := FunD K x x (defArgs st) (defBody st) (defScope st) [] [] f fd
abbrev N__law_row : List Str := ["_law_cell", "_law_many", "_law_base", "_law_rest", "_law_found", "_law_high", "_law_k", "_law_one", "_law_other"]
abbrev N__law_entry : List Str := ["_law_digit"]
abbrev N__law_table : List Str := ["_law_cell", "_law_high", "_law_wide", "_law_row_here", "_law_i", "_law_j"]
abbrev N__law_cell_at : List Str := ["_law_script", "_law_k"]
abbrev N__law_copy : List Str := ["_law_one", "_law_row_here"]
abbrev N__law_spoiled : List Str := ["_law_table_here", "_law_row_here", "_law_high", "_law_wide", "_law_rows", "_law_way", "_law_i"]
abbrev N__law_odd : List Str := ["_law_k", "_law_some"]
abbrev N_is_whole : List Str := ["thing"]
abbrev N_is_size : List Str := ["thing"]
abbrev N_is_row : List Str := ["thing", "wide", "one"]
abbrev N_is_table : List Str := ["thing", "high", "wide", "rows", "row"]
abbrev N__law_whole : List Str := ["_law_thing"]
abbrev N__law_is_table : List Str := ["_law_thing", "_law_row_here", "_law_number"]
abbrev N_law : List Str := ["_law_script", "_law_head", "_law_high", "_law_wide", "_law_table_here", "_law_thing", "_law_kept", "_law_found"]
section
variable {P : Program} {w : World} {K : PySem.W.Frag} {mg : Str → Option Value} {base : Heap}
theorem sc__law_row : FnScope N__law_row ["_law_cell", "_law_many", "_law_base"] (defScope s__law_row) := ⟨rfl, rfl, rfl, by decide +kernel, rfl, by decide +kernel, by decide +kernel⟩
theorem ok__law_row {f : Addr} {fd : FuncData} (F : FnP K "_law_row" s__law_row f fd) (b_range : mg "range" = none) : FnOk P w K mg base CX0 1 f fd ["_law_cell", "_law_many", "_law_base"] (sp0 ⟨mg, K⟩ f__law_row 3 .fresh) := by
  have sc := sc__law_row
  let N : List Str := N__law_row
  let st : Stmt := s__law_row
  refine fn_ok0 (Γ' := []) (sc := ⟨[], .fresh, [], []⟩) (k := 0) F sc [.flat, .flat, .flat] rfl (by decide) rfl fun cdv A outer s0 H E hr => ?_
  exact (ss_cons (sx_set (i := 3) 2 3 sc.nd rfl (by first | exact Or.inl rfl | exact Or.inr rfl) (ex_div (ex_var (k := .flat) 0 rfl (by decide) rfl (by first | exact Or.inl rfl | exact Or.inr (Or.inl rfl) | exact Or.inr (Or.inr rfl))) (ex_int)))
        (ss_cons (sx_set (i := 4) 4 5 sc.nd rfl (by first | exact Or.inl rfl | exact Or.inr rfl) (ex_lst (ea_nil)))
        (ss_cons (sx_set (i := 5) 6 7 sc.nd rfl (by first | exact Or.inl rfl | exact Or.inr rfl) (ex_var (k := .flat) 3 rfl (by decide) rfl (by first | exact Or.inl rfl | exact Or.inr (Or.inl rfl) | exact Or.inr (Or.inr rfl))))
        (ss_cons (sx_for 8 rfl PassesOwn.never (ei_range1 rfl b_range (ea_cons (ex_var (k := .flat) 1 rfl (by decide) rfl (by first | exact Or.inl rfl | exact Or.inr (Or.inl rfl) | exact Or.inr (Or.inr rfl))) (ea_nil))) (eg_name sc.nd (i := 6) rfl (by first | exact Or.inl rfl | exact Or.inr rfl))
        (ss_conv (Γ' := [.flat, .flat, .flat, .flat, .lab (some 4) [] true, .flat, .dead, .dead, .dead]) [] (ss_one (sx_set (i := 5) 9 10 sc.nd rfl (by first | exact Or.inl rfl | exact Or.inr rfl) (ex_div (ex_var (k := .flat) 5 rfl (by decide) rfl (by first | exact Or.inl rfl | exact Or.inr (Or.inl rfl) | exact Or.inr (Or.inr rfl))) (ex_var (k := .flat) 2 rfl (by decide) rfl (by first | exact Or.inl rfl | exact Or.inr (Or.inl rfl) | exact Or.inr (Or.inr rfl)))))) (by decide) (by decide)))
        (ss_cons (sx_for 11 rfl PassesOwn.never (ei_range1 rfl b_range (ea_cons (ex_var (k := .flat) 1 rfl (by decide) rfl (by first | exact Or.inl rfl | exact Or.inr (Or.inl rfl) | exact Or.inr (Or.inr rfl))) (ea_nil))) (eg_name sc.nd (i := 6) rfl (by first | exact Or.inl rfl | exact Or.inr rfl))
        (ss_conv (Γ' := [.flat, .flat, .flat, .flat, .lab (some 4) [] true, .flat, .dead, .dead, .dead]) [] (ss_one (sx_if (et_gt (ex_var (k := .flat) 5 rfl (by decide) rfl (by first | exact Or.inl rfl | exact Or.inr (Or.inl rfl) | exact Or.inr (Or.inr rfl))) (ex_int))
        (ss_cons (sx_append (i := 4) (n := 4) (L := []) (nd := true) 12 rfl rfl (by first | exact Or.inl rfl | exact Or.inr (Or.inl rfl) | exact Or.inr (Or.inr rfl)) (ex_mod (ex_var (k := .flat) 3 rfl (by decide) rfl (by first | exact Or.inl rfl | exact Or.inr (Or.inl rfl) | exact Or.inr (Or.inr rfl))) (ex_var (k := .flat) 2 rfl (by decide) rfl (by first | exact Or.inl rfl | exact Or.inr (Or.inl rfl) | exact Or.inr (Or.inr rfl)))))
        (ss_one (sx_set (i := 3) 13 14 sc.nd rfl (by first | exact Or.inl rfl | exact Or.inr rfl) (ex_div (ex_var (k := .flat) 3 rfl (by decide) rfl (by first | exact Or.inl rfl | exact Or.inr (Or.inl rfl) | exact Or.inr (Or.inr rfl))) (ex_var (k := .flat) 2 rfl (by decide) rfl (by first | exact Or.inl rfl | exact Or.inr (Or.inl rfl) | exact Or.inr (Or.inr rfl)))))))
        (ss_conv (Γ' := [.flat, .flat, .flat, .flat, .lab (some 4) [] true, .flat, .flat, .dead, .dead]) [] (ss_cons (sx_set (i := 7) 15 16 sc.nd rfl (by first | exact Or.inl rfl | exact Or.inr rfl) (ex_mod (ex_mul (ex_add (ex_add (ex_add (ex_mod (ex_var (k := .flat) 3 rfl (by decide) rfl (by first | exact Or.inl rfl | exact Or.inr (Or.inl rfl) | exact Or.inr (Or.inr rfl))) (ex_int)) (ex_mul (ex_int) (ex_var (k := .flat) 6 rfl (by decide) rfl (by first | exact Or.inl rfl | exact Or.inr (Or.inl rfl) | exact Or.inr (Or.inr rfl))))) (ex_mul (ex_var (k := .flat) 6 rfl (by decide) rfl (by first | exact Or.inl rfl | exact Or.inr (Or.inl rfl) | exact Or.inr (Or.inr rfl))) (ex_var (k := .flat) 6 rfl (by decide) rfl (by first | exact Or.inl rfl | exact Or.inr (Or.inl rfl) | exact Or.inr (Or.inr rfl))))) (ex_int)) (ex_int)) (ex_int)))
        (ss_cons (sx_set (i := 8) 17 18 sc.nd rfl (by first | exact Or.inl rfl | exact Or.inr rfl) (ex_mod (ex_mul (ex_add (ex_var (k := .flat) 7 rfl (by decide) rfl (by first | exact Or.inl rfl | exact Or.inr (Or.inl rfl) | exact Or.inr (Or.inr rfl))) (ex_mul (ex_int) (ex_var (k := .flat) 6 rfl (by decide) rfl (by first | exact Or.inl rfl | exact Or.inr (Or.inl rfl) | exact Or.inr (Or.inr rfl))))) (ex_int)) (ex_int)))
        (ss_one (sx_append (i := 4) (n := 4) (L := []) (nd := true) 19 rfl rfl (by first | exact Or.inl rfl | exact Or.inr (Or.inl rfl) | exact Or.inr (Or.inr rfl)) (ex_mod (ex_add (ex_mul (ex_var (k := .flat) 7 rfl (by decide) rfl (by first | exact Or.inl rfl | exact Or.inr (Or.inl rfl) | exact Or.inr (Or.inr rfl))) (ex_var (k := .flat) 8 rfl (by decide) rfl (by first | exact Or.inl rfl | exact Or.inr (Or.inl rfl) | exact Or.inr (Or.inr rfl)))) (ex_div (ex_var (k := .flat) 7 rfl (by decide) rfl (by first | exact Or.inl rfl | exact Or.inr (Or.inl rfl) | exact Or.inr (Or.inr rfl))) (ex_int))) (ex_var (k := .flat) 2 rfl (by decide) rfl (by first | exact Or.inl rfl | exact Or.inr (Or.inl rfl) | exact Or.inr (Or.inr rfl)))))))) (by decide) (by decide)))) (by decide) (by decide)))
        (ss_one (sx_ret (ex_var (k := .lab (some 4) [] true) 4 rfl (by decide) rfl (by first | exact Or.inl rfl | exact Or.inr (Or.inl rfl) | exact Or.inr (Or.inr rfl))))))))))
theorem cal__law_row {f : Addr} {fd : FuncData} (F : FnP K "_law_row" s__law_row f fd) (h : mg "_law_row" = some (.ref f)) (b_range : mg "range" = none) : Cal P w K mg base "_law_row" 1 ["_law_cell", "_law_many", "_law_base"] f__law_row .fresh :=
  ⟨f, fd, ok__law_row F b_range, h, F.kp, FunD.bindsN F fun _ _ _ _ _ _ us hl => match us, hl with | [_, _, _], _ => rfl⟩
theorem sc__law_entry : FnScope N__law_entry ["_law_digit"] (defScope s__law_entry) := ⟨rfl, rfl, rfl, by decide +kernel, rfl, by decide +kernel, by decide +kernel⟩
theorem ok__law_entry {f : Addr} {fd : FuncData} (F : FnP K "_law_entry" s__law_entry f fd) : FnOk P w K mg base CX0 1 f fd ["_law_digit"] (sp0 ⟨mg, K⟩ f__law_entry 1 .flat) := by
  have sc := sc__law_entry
  let N : List Str := N__law_entry
  let st : Stmt := s__law_entry
  refine fn_ok0 (Γ' := []) (sc := ⟨[], .flat, [], []⟩) (k := 0) F sc [.flat] rfl (by decide) rfl fun cdv A outer s0 H E hr => ?_
  exact (ss_cons (sx_if (et_lt (ex_mod (ex_var (k := .flat) 0 rfl (by decide) rfl (by first | exact Or.inl rfl | exact Or.inr (Or.inl rfl) | exact Or.inr (Or.inr rfl))) (ex_int)) (ex_int))
        (ss_one (sx_ret (ex_int)))
        (ss_nil))
        (ss_cons (sx_if (et_lt (ex_mod (ex_var (k := .flat) 0 rfl (by decide) rfl (by first | exact Or.inl rfl | exact Or.inr (Or.inl rfl) | exact Or.inr (Or.inr rfl))) (ex_int)) (ex_int))
        (ss_one (sx_ret (ex_sub (ex_mod (ex_div (ex_var (k := .flat) 0 rfl (by decide) rfl (by first | exact Or.inl rfl | exact Or.inr (Or.inl rfl) | exact Or.inr (Or.inr rfl))) (ex_int)) (ex_int)) (ex_int))))
        (ss_nil))
        (ss_one (sx_ret (ex_add (ex_mul (ex_sub (ex_div (ex_var (k := .flat) 0 rfl (by decide) rfl (by first | exact Or.inl rfl | exact Or.inr (Or.inl rfl) | exact Or.inr (Or.inr rfl))) (ex_int)) (ex_int)) (ex_powc (c := 1000000000) (ex_pow (ex_int) (ex_int)) (by unfold CPow; decide) (by decide))) (ex_div (ex_var (k := .flat) 0 rfl (by decide) rfl (by first | exact Or.inl rfl | exact Or.inr (Or.inl rfl) | exact Or.inr (Or.inr rfl))) (ex_int)))))))
theorem cal__law_entry {f : Addr} {fd : FuncData} (F : FnP K "_law_entry" s__law_entry f fd) (h : mg "_law_entry" = some (.ref f)) : Cal P w K mg base "_law_entry" 1 ["_law_digit"] f__law_entry .flat :=
  ⟨f, fd, ok__law_entry F, h, F.kp, FunD.bindsN F fun _ _ _ _ _ _ us hl => match us, hl with | [_], _ => rfl⟩
theorem sc__law_table : FnScope N__law_table ["_law_cell", "_law_high", "_law_wide"] (defScope s__law_table) := ⟨rfl, rfl, rfl, by decide +kernel, rfl, by decide +kernel, by decide +kernel⟩
theorem ok__law_table {f : Addr} {fd : FuncData} (F : FnP K "_law_table" s__law_table f fd) (b_range : mg "range" = none) (c__law_row : Cal P w K mg base "_law_row" 1 ["_law_cell", "_law_many", "_law_base"] f__law_row .fresh) (c__law_entry : Cal P w K mg base "_law_entry" 1 ["_law_digit"] f__law_entry .flat) : FnOk P w K mg base CX0 2 f fd ["_law_cell", "_law_high", "_law_wide"] (sp0 ⟨mg, K⟩ f__law_table 3 .fresh) := by
  have sc := sc__law_table
  let N : List Str := N__law_table
  let st : Stmt := s__law_table
  refine fn_ok0 (Γ' := []) (sc := ⟨[], .fresh, [], []⟩) (k := 1) F sc [.flat, .flat, .flat] rfl (by decide) rfl fun cdv A outer s0 H E hr => ?_
  exact (ss_cons (sx_set (i := 3) 2 3 sc.nd rfl (by first | exact Or.inl rfl | exact Or.inr rfl) (ex_kids (ex_calls_fresh c__law_row (hr.mono (by decide)) rfl (ea_cons (ex_var (k := .flat) 0 rfl (by decide) rfl (by first | exact Or.inl rfl | exact Or.inr (Or.inl rfl) | exact Or.inr (Or.inr rfl))) (ea_cons (ex_mul (ex_var (k := .flat) 1 rfl (by decide) rfl (by first | exact Or.inl rfl | exact Or.inr (Or.inl rfl) | exact Or.inr (Or.inr rfl))) (ex_var (k := .flat) 2 rfl (by decide) rfl (by first | exact Or.inl rfl | exact Or.inr (Or.inl rfl) | exact Or.inr (Or.inr rfl)))) (ea_cons (ex_int) (ea_nil)))))))
        (ss_one (sx_ret (ex_tup (ea_cons (ex_var (k := .flat) 1 rfl (by decide) rfl (by first | exact Or.inl rfl | exact Or.inr (Or.inl rfl) | exact Or.inr (Or.inr rfl))) (ea_cons (ex_var (k := .flat) 2 rfl (by decide) rfl (by first | exact Or.inl rfl | exact Or.inr (Or.inl rfl) | exact Or.inr (Or.inr rfl))) (ea_cons (ex_lc (own := [("_law_i", 4)]) 4 rfl sc.nd (ei_range1 rfl b_range (ea_cons (ex_var (k := .flat) 1 rfl (by decide) rfl (by first | exact Or.inl rfl | exact Or.inr (Or.inl rfl) | exact Or.inr (Or.inr rfl))) (ea_nil))) (blkOk_by (by kernel_rfl)) (fun _ _ _ _ _ => eg_name sc.nd (i := 4) rfl (by first | exact Or.inl rfl | exact Or.inr rfl)) (fun _ _ _ _ _ => ets_nil) (fun _ _ _ _ _ => ex_lc (own := [("_law_j", 5)]) 5 rfl sc.nd (ei_range1 rfl b_range (ea_cons (ex_var (k := .flat) 2 rfl (by decide) rfl (by first | exact Or.inl rfl | exact Or.inr (Or.inl rfl) | exact Or.inr (Or.inr rfl))) (ea_nil))) (blkOk_by (by kernel_rfl)) (fun _ _ _ _ _ => eg_name sc.nd (i := 5) rfl (by first | exact Or.inl rfl | exact Or.inr rfl)) (fun _ _ _ _ _ => ets_nil) (fun _ _ _ _ _ => ex_calls_flat c__law_entry (hr.mono (by decide)) rfl (ea_cons (ex_flat (ex_idx (ex_var (k := .lab (some 2) [] true) 3 rfl (by decide) rfl (by first | exact Or.inl rfl | exact Or.inr (Or.inl rfl) | exact Or.inr (Or.inr rfl))) (ex_add (ex_mul (ex_var (k := .flat) 4 rfl (by decide) rfl (by first | exact Or.inl rfl | exact Or.inr (Or.inl rfl) | exact Or.inr (Or.inr rfl))) (ex_var (k := .flat) 2 rfl (by decide) rfl (by first | exact Or.inl rfl | exact Or.inr (Or.inl rfl) | exact Or.inr (Or.inr rfl)))) (ex_var (k := .flat) 5 rfl (by decide) rfl (by first | exact Or.inl rfl | exact Or.inr (Or.inl rfl) | exact Or.inr (Or.inr rfl)))))) (ea_nil))))) (ea_nil))))))))
theorem cal__law_table {f : Addr} {fd : FuncData} (F : FnP K "_law_table" s__law_table f fd) (h : mg "_law_table" = some (.ref f)) (b_range : mg "range" = none) (c__law_row : Cal P w K mg base "_law_row" 1 ["_law_cell", "_law_many", "_law_base"] f__law_row .fresh) (c__law_entry : Cal P w K mg base "_law_entry" 1 ["_law_digit"] f__law_entry .flat) : Cal P w K mg base "_law_table" 2 ["_law_cell", "_law_high", "_law_wide"] f__law_table .fresh :=
  ⟨f, fd, ok__law_table F b_range c__law_row c__law_entry, h, F.kp, FunD.bindsN F fun _ _ _ _ _ _ us hl => match us, hl with | [_, _, _], _ => rfl⟩
theorem sc__law_cell_at : FnScope N__law_cell_at ["_law_script", "_law_k"] (defScope s__law_cell_at) := ⟨rfl, rfl, rfl, by decide +kernel, rfl, by decide +kernel, by decide +kernel⟩
theorem ok__law_cell_at {f : Addr} {fd : FuncData} (F : FnP K "_law_cell_at" s__law_cell_at f fd) (b_len : mg "len" = none) : FnOk P w K mg base CX0 1 f fd ["_law_script", "_law_k"] (sp0 ⟨mg, K⟩ f__law_cell_at 2 .flat) := by
  have sc := sc__law_cell_at
  let N : List Str := N__law_cell_at
  let st : Stmt := s__law_cell_at
  refine fn_ok0 (Γ' := []) (sc := ⟨[], .flat, [], []⟩) (k := 0) F sc [.flat, .flat] rfl (by decide) rfl fun cdv A outer s0 H E hr => ?_
  exact (ss_cons (sx_if (et_lt (ex_var (k := .flat) 1 rfl (by decide) rfl (by first | exact Or.inl rfl | exact Or.inr (Or.inl rfl) | exact Or.inr (Or.inr rfl))) (ex_callB call_len cp_len rfl b_len boot_len (ea_cons (ex_var (k := .flat) 0 rfl (by decide) rfl (by first | exact Or.inl rfl | exact Or.inr (Or.inl rfl) | exact Or.inr (Or.inr rfl))) (ea_nil))))
        (ss_one (sx_ret (ex_idx (ex_var (k := .flat) 0 rfl (by decide) rfl (by first | exact Or.inl rfl | exact Or.inr (Or.inl rfl) | exact Or.inr (Or.inr rfl))) (ex_var (k := .flat) 1 rfl (by decide) rfl (by first | exact Or.inl rfl | exact Or.inr (Or.inl rfl) | exact Or.inr (Or.inr rfl))))))
        (ss_nil))
        (ss_one (sx_ret (ex_int))))
theorem cal__law_cell_at {f : Addr} {fd : FuncData} (F : FnP K "_law_cell_at" s__law_cell_at f fd) (h : mg "_law_cell_at" = some (.ref f)) (b_len : mg "len" = none) : Cal P w K mg base "_law_cell_at" 1 ["_law_script", "_law_k"] f__law_cell_at .flat :=
  ⟨f, fd, ok__law_cell_at F b_len, h, F.kp, FunD.bindsN F fun _ _ _ _ _ _ us hl => match us, hl with | [_, _], _ => rfl⟩
theorem sc__law_copy : FnScope N__law_copy ["_law_one"] (defScope s__law_copy) := ⟨rfl, rfl, rfl, by decide +kernel, rfl, by decide +kernel, by decide +kernel⟩
theorem ok__law_copy {f : Addr} {fd : FuncData} (F : FnP K "_law_copy" s__law_copy f fd) (b_list : mg "list" = none) : FnOk P w K mg base CX0 1 f fd ["_law_one"] (sp0 ⟨mg, K⟩ f__law_copy 1 .fresh) := by
  have sc := sc__law_copy
  let N : List Str := N__law_copy
  let st : Stmt := s__law_copy
  refine fn_ok0 (Γ' := []) (sc := ⟨[], .fresh, [], []⟩) (k := 0) F sc [.lab none [0] false] rfl (by decide) rfl fun cdv A outer s0 H E hr => ?_
  exact (ss_one (sx_ret (ex_tup (ea_cons (ex_flat (ex_idx (ex_var (k := .lab none [0] false) 0 rfl (by decide) rfl (by first | exact Or.inl rfl | exact Or.inr (Or.inl rfl) | exact Or.inr (Or.inr rfl))) (ex_int))) (ea_cons (ex_flat (ex_idx (ex_var (k := .lab none [0] false) 0 rfl (by decide) rfl (by first | exact Or.inl rfl | exact Or.inr (Or.inl rfl) | exact Or.inr (Or.inr rfl))) (ex_int))) (ea_cons (ex_lc (own := [("_law_row_here", 1)]) 2 rfl sc.nd (ei_list (ex_idx (ex_var (k := .lab none [0] false) 0 rfl (by decide) rfl (by first | exact Or.inl rfl | exact Or.inr (Or.inl rfl) | exact Or.inr (Or.inr rfl))) (ex_int))) (blkOk_by (by kernel_rfl)) (fun _ _ _ _ _ => eg_name sc.nd (i := 1) rfl (by first | exact Or.inl rfl | exact Or.inr rfl)) (fun _ _ _ _ _ => ets_nil) (fun _ _ _ _ _ => ex_kids (ex_list rfl b_list (by decide +kernel) (ex_var (k := .lab none [0] false) 1 rfl (by decide) rfl (by first | exact Or.inl rfl | exact Or.inr (Or.inl rfl) | exact Or.inr (Or.inr rfl)))))) (ea_nil)))))))
theorem cal__law_copy {f : Addr} {fd : FuncData} (F : FnP K "_law_copy" s__law_copy f fd) (h : mg "_law_copy" = some (.ref f)) (b_list : mg "list" = none) : Cal P w K mg base "_law_copy" 1 ["_law_one"] f__law_copy .fresh :=
  ⟨f, fd, ok__law_copy F b_list, h, F.kp, FunD.bindsN F fun _ _ _ _ _ _ us hl => match us, hl with | [_], _ => rfl⟩
theorem sc__law_spoiled : FnScope N__law_spoiled ["_law_table_here", "_law_row_here"] (defScope s__law_spoiled) := ⟨rfl, rfl, rfl, by decide +kernel, rfl, by decide +kernel, by decide +kernel⟩
theorem ok__law_spoiled {f : Addr} {fd : FuncData} (F : FnP K "_law_spoiled" s__law_spoiled f fd) (b_tuple : mg "tuple" = none) (c__law_copy : Cal P w K mg base "_law_copy" 1 ["_law_one"] f__law_copy .fresh) : FnOk P w K mg base CX0 2 f fd ["_law_table_here", "_law_row_here"] (sp0 ⟨mg, K⟩ f__law_spoiled 2 .news) := by
  have sc := sc__law_spoiled
  let N : List Str := N__law_spoiled
  let st : Stmt := s__law_spoiled
  refine fn_ok0 (Γ' := []) (sc := ⟨[], .news, [], []⟩) (k := 1) F sc [.lab none [0] false, .lab none [0] false] rfl (by decide) rfl fun cdv A outer s0 H E hr => ?_
  exact (ss_cons (sx_asgU [(2, 3), (4, 5), (6, 7)] rfl (ex_calls_fresh c__law_copy (hr.mono (by decide)) rfl (ea_cons (ex_var (k := .lab none [0] false) 0 rfl (by decide) rfl (by first | exact Or.inl rfl | exact Or.inr (Or.inl rfl) | exact Or.inr (Or.inr rfl))) (ea_nil))) (egk_cons (eg_flat (eg_name sc.nd (i := 2) rfl (by first | exact Or.inl rfl | exact Or.inr rfl))) (egk_cons (eg_flat (eg_name sc.nd (i := 3) rfl (by first | exact Or.inl rfl | exact Or.inr rfl))) (egk_cons (eg_name sc.nd (i := 4) rfl (by first | exact Or.inl rfl | exact Or.inr rfl)) (egk_nil)))))
        (ss_cons (sx_set (i := 5) 8 9 sc.nd rfl (by first | exact Or.inl rfl | exact Or.inr rfl) (ex_mod (ex_flat (ex_idx (ex_var (k := .lab none [0] false) 1 rfl (by decide) rfl (by first | exact Or.inl rfl | exact Or.inr (Or.inl rfl) | exact Or.inr (Or.inr rfl))) (ex_int))) (ex_int)))
        (ss_cons (sx_if (et_lt (ex_var (k := .flat) 5 rfl (by decide) rfl (by first | exact Or.inl rfl | exact Or.inr (Or.inl rfl) | exact Or.inr (Or.inr rfl))) (ex_int))
        (ss_one (sx_ret (ex_tup (ea_cons (ex_sub (ex_add (ex_var (k := .flat) 2 rfl (by decide) rfl (by first | exact Or.inl rfl | exact Or.inr (Or.inl rfl) | exact Or.inr (Or.inr rfl))) (ex_int)) (ex_mul (ex_int) (ex_var (k := .flat) 5 rfl (by decide) rfl (by first | exact Or.inl rfl | exact Or.inr (Or.inl rfl) | exact Or.inr (Or.inr rfl))))) (ea_cons (ex_var (k := .flat) 3 rfl (by decide) rfl (by first | exact Or.inl rfl | exact Or.inr (Or.inl rfl) | exact Or.inr (Or.inr rfl))) (ea_cons (ex_var (k := .lab (some 6) [7] true) 4 rfl (by decide) rfl (by first | exact Or.inl rfl | exact Or.inr (Or.inl rfl) | exact Or.inr (Or.inr rfl))) (ea_nil)))))))
        (ss_nil))
        (ss_cons (sx_if (et_lt (ex_var (k := .flat) 5 rfl (by decide) rfl (by first | exact Or.inl rfl | exact Or.inr (Or.inl rfl) | exact Or.inr (Or.inr rfl))) (ex_int))
        (ss_one (sx_ret (ex_tup (ea_cons (ex_var (k := .flat) 2 rfl (by decide) rfl (by first | exact Or.inl rfl | exact Or.inr (Or.inl rfl) | exact Or.inr (Or.inr rfl))) (ea_cons (ex_sub (ex_add (ex_var (k := .flat) 3 rfl (by decide) rfl (by first | exact Or.inl rfl | exact Or.inr (Or.inl rfl) | exact Or.inr (Or.inr rfl))) (ex_int)) (ex_mul (ex_int) (ex_var (k := .flat) 5 rfl (by decide) rfl (by first | exact Or.inl rfl | exact Or.inr (Or.inl rfl) | exact Or.inr (Or.inr rfl))))) (ea_cons (ex_var (k := .lab (some 6) [7] true) 4 rfl (by decide) rfl (by first | exact Or.inl rfl | exact Or.inr (Or.inl rfl) | exact Or.inr (Or.inr rfl))) (ea_nil)))))))
        (ss_nil))
        (ss_cons (sx_if (et_eq hr.units (ex_var (k := .flat) 5 rfl (by decide) rfl (by first | exact Or.inl rfl | exact Or.inr (Or.inl rfl) | exact Or.inr (Or.inr rfl))) (ex_int))
        (ss_one (sx_ret (ex_tup (ea_cons (ex_add (ex_var (k := .flat) 2 rfl (by decide) rfl (by first | exact Or.inl rfl | exact Or.inr (Or.inl rfl) | exact Or.inr (Or.inr rfl))) (ex_int)) (ea_cons (ex_var (k := .flat) 3 rfl (by decide) rfl (by first | exact Or.inl rfl | exact Or.inr (Or.inl rfl) | exact Or.inr (Or.inr rfl))) (ea_cons (ex_cat (ex_var (k := .lab (some 6) [7] true) 4 rfl (by decide) rfl (by first | exact Or.inl rfl | exact Or.inr (Or.inl rfl) | exact Or.inr (Or.inr rfl))) (ex_lst (ea_cons (ex_rep (ex_lst (ea_cons (ex_int) (ea_nil))) (ex_var (k := .flat) 3 rfl (by decide) rfl (by first | exact Or.inl rfl | exact Or.inr (Or.inl rfl) | exact Or.inr (Or.inr rfl)))) (ea_nil)))) (ea_nil)))))))
        (ss_nil))
        (ss_cons (sx_if (et_eq hr.units (ex_var (k := .lab (some 6) [7] true) 4 rfl (by decide) rfl (by first | exact Or.inl rfl | exact Or.inr (Or.inl rfl) | exact Or.inr (Or.inr rfl))) (ex_lst (ea_nil)))
        (ss_one (sx_ret (ex_tup (ea_cons (ex_var (k := .flat) 2 rfl (by decide) rfl (by first | exact Or.inl rfl | exact Or.inr (Or.inl rfl) | exact Or.inr (Or.inr rfl))) (ea_cons (ex_var (k := .flat) 3 rfl (by decide) rfl (by first | exact Or.inl rfl | exact Or.inr (Or.inl rfl) | exact Or.inr (Or.inr rfl))) (ea_cons (ex_tuple rfl b_tuple (by decide +kernel) (ex_var (k := .lab (some 6) [7] true) 4 rfl (by decide) rfl (by first | exact Or.inl rfl | exact Or.inr (Or.inl rfl) | exact Or.inr (Or.inr rfl)))) (ea_nil)))))))
        (ss_nil))
        (ss_cons (sx_set (i := 6) 10 11 sc.nd rfl (by first | exact Or.inl rfl | exact Or.inr rfl) (ex_mod (ex_flat (ex_idx (ex_var (k := .lab none [0] false) 1 rfl (by decide) rfl (by first | exact Or.inl rfl | exact Or.inr (Or.inl rfl) | exact Or.inr (Or.inr rfl))) (ex_int))) (ex_var (k := .flat) 2 rfl (by decide) rfl (by first | exact Or.inl rfl | exact Or.inr (Or.inl rfl) | exact Or.inr (Or.inr rfl)))))
        (ss_cons (sx_if (et_eq hr.units (ex_var (k := .flat) 5 rfl (by decide) rfl (by first | exact Or.inl rfl | exact Or.inr (Or.inl rfl) | exact Or.inr (Or.inr rfl))) (ex_int))
        (ss_one (sx_lput (i := 4) (n := 6) (L := [7]) (nd := true) 12 rfl rfl (by first | exact Or.inl rfl | exact Or.inr (Or.inl rfl) | exact Or.inr (Or.inr rfl)) (ex_catF (ex_idx (ex_var (k := .lab (some 6) [7] true) 4 rfl (by decide) rfl (by first | exact Or.inl rfl | exact Or.inr (Or.inl rfl) | exact Or.inr (Or.inr rfl))) (ex_var (k := .flat) 6 rfl (by decide) rfl (by first | exact Or.inl rfl | exact Or.inr (Or.inl rfl) | exact Or.inr (Or.inr rfl)))) (ex_lst (ea_cons (ex_flat (ex_idx (ex_var (k := .lab none [0] false) 1 rfl (by decide) rfl (by first | exact Or.inl rfl | exact Or.inr (Or.inl rfl) | exact Or.inr (Or.inr rfl))) (ex_int))) (ea_nil)))) (ex_var (k := .flat) 6 rfl (by decide) rfl (by first | exact Or.inl rfl | exact Or.inr (Or.inl rfl) | exact Or.inr (Or.inr rfl)))))
        (ss_conv (Γ' := [.lab none [0] false, .lab none [0] false, .flat, .flat, .lab (some 6) [7, 12] true, .flat, .flat]) [] (ss_nil) (by decide) (by decide)))
        (ss_cons (sx_if (et_eq hr.units (ex_var (k := .flat) 5 rfl (by decide) rfl (by first | exact Or.inl rfl | exact Or.inr (Or.inl rfl) | exact Or.inr (Or.inr rfl))) (ex_int))
        (ss_one (sx_lput (i := 4) (n := 6) (L := [7, 12]) (nd := true) 13 rfl rfl (by first | exact Or.inl rfl | exact Or.inr (Or.inl rfl) | exact Or.inr (Or.inr rfl)) (ex_kids (ex_slL (ex_idx (ex_var (k := .lab (some 6) [7, 12] true) 4 rfl (by decide) rfl (by first | exact Or.inl rfl | exact Or.inr (Or.inl rfl) | exact Or.inr (Or.inr rfl))) (ex_var (k := .flat) 6 rfl (by decide) rfl (by first | exact Or.inl rfl | exact Or.inr (Or.inl rfl) | exact Or.inr (Or.inr rfl)))) (eo_some (ex_int)) (eo_none))) (ex_var (k := .flat) 6 rfl (by decide) rfl (by first | exact Or.inl rfl | exact Or.inr (Or.inl rfl) | exact Or.inr (Or.inr rfl)))))
        (ss_conv (Γ' := [.lab none [0] false, .lab none [0] false, .flat, .flat, .lab (some 6) [7, 12, 13] true, .flat, .flat]) [] (ss_nil) (by decide) (by decide)))
        (ss_cons (sx_if (et_eq hr.units (ex_var (k := .flat) 5 rfl (by decide) rfl (by first | exact Or.inl rfl | exact Or.inr (Or.inl rfl) | exact Or.inr (Or.inr rfl))) (ex_int))
        (ss_one (sx_lput (i := 4) (n := 6) (L := [7, 12, 13]) (nd := true) 14 rfl rfl (by first | exact Or.inl rfl | exact Or.inr (Or.inl rfl) | exact Or.inr (Or.inr rfl)) (ex_flat (ex_tuple rfl b_tuple (by decide +kernel) (ex_idx (ex_var (k := .lab (some 6) [7, 12, 13] true) 4 rfl (by decide) rfl (by first | exact Or.inl rfl | exact Or.inr (Or.inl rfl) | exact Or.inr (Or.inr rfl))) (ex_var (k := .flat) 6 rfl (by decide) rfl (by first | exact Or.inl rfl | exact Or.inr (Or.inl rfl) | exact Or.inr (Or.inr rfl)))))) (ex_var (k := .flat) 6 rfl (by decide) rfl (by first | exact Or.inl rfl | exact Or.inr (Or.inl rfl) | exact Or.inr (Or.inr rfl)))))
        (ss_nil))
        (ss_cons (sx_if (et_w (ew_and (et_eq hr.units (ex_var (k := .flat) 5 rfl (by decide) rfl (by first | exact Or.inl rfl | exact Or.inr (Or.inl rfl) | exact Or.inr (Or.inr rfl))) (ex_int)) (ew_and1 (et_gt (ex_var (k := .flat) 3 rfl (by decide) rfl (by first | exact Or.inl rfl | exact Or.inr (Or.inl rfl) | exact Or.inr (Or.inr rfl))) (ex_int)))))
        (ss_one (sx_putAtT (i := 4) (n := 6) (L := [7, 12, 13]) 15 rfl rfl (by first | exact Or.inl rfl | exact Or.inr (Or.inl rfl) | exact Or.inr (Or.inr rfl)) (ex_idx (ex_lst (ea_cons (ex_non) (ea_cons (ex_bl) (ea_cons (ex_bl) (ea_cons (ex_str) (ea_cons (ex_int) (ea_cons (ex_neg (ex_int)) (ea_cons (ex_lst (ea_nil)) (ea_cons (ex_tup (ea_cons (ex_int) (ea_nil))) (ea_nil)))))))))) (ex_mod (ex_flat (ex_idx (ex_var (k := .lab none [0] false) 1 rfl (by decide) rfl (by first | exact Or.inl rfl | exact Or.inr (Or.inl rfl) | exact Or.inr (Or.inr rfl))) (ex_int))) (ex_int))) (ex_var (k := .flat) 6 rfl (by decide) rfl (by first | exact Or.inl rfl | exact Or.inr (Or.inl rfl) | exact Or.inr (Or.inr rfl))) (ex_mod (ex_flat (ex_idx (ex_var (k := .lab none [0] false) 1 rfl (by decide) rfl (by first | exact Or.inl rfl | exact Or.inr (Or.inl rfl) | exact Or.inr (Or.inr rfl))) (ex_int))) (ex_var (k := .flat) 3 rfl (by decide) rfl (by first | exact Or.inl rfl | exact Or.inr (Or.inl rfl) | exact Or.inr (Or.inr rfl))))))
        (ss_conv (Γ' := [.lab none [0] false, .lab none [0] false, .flat, .flat, .lab (some 6) [7, 12, 13, 15] true, .flat, .flat]) [] (ss_nil) (by decide) (by decide)))
        (ss_one (sx_ret (ex_tup (ea_cons (ex_var (k := .flat) 2 rfl (by decide) rfl (by first | exact Or.inl rfl | exact Or.inr (Or.inl rfl) | exact Or.inr (Or.inr rfl))) (ea_cons (ex_var (k := .flat) 3 rfl (by decide) rfl (by first | exact Or.inl rfl | exact Or.inr (Or.inl rfl) | exact Or.inr (Or.inr rfl))) (ea_cons (ex_var (k := .lab (some 6) [7, 12, 13, 15] true) 4 rfl (by decide) rfl (by first | exact Or.inl rfl | exact Or.inr (Or.inl rfl) | exact Or.inr (Or.inr rfl))) (ea_nil))))))))))))))))))
theorem cal__law_spoiled {f : Addr} {fd : FuncData} (F : FnP K "_law_spoiled" s__law_spoiled f fd) (h : mg "_law_spoiled" = some (.ref f)) (b_tuple : mg "tuple" = none) (c__law_copy : Cal P w K mg base "_law_copy" 1 ["_law_one"] f__law_copy .fresh) : Cal P w K mg base "_law_spoiled" 2 ["_law_table_here", "_law_row_here"] f__law_spoiled .news :=
  ⟨f, fd, ok__law_spoiled F b_tuple c__law_copy, h, F.kp, FunD.bindsN F fun _ _ _ _ _ _ us hl => match us, hl with | [_, _], _ => rfl⟩
theorem sc__law_odd : FnScope N__law_odd ["_law_k"] (defScope s__law_odd) := ⟨rfl, rfl, rfl, by decide +kernel, rfl, by decide +kernel, by decide +kernel⟩
theorem ok__law_odd {f : Addr} {fd : FuncData} (F : FnP K "_law_odd" s__law_odd f fd) : FnOk P w K mg base CX0 1 f fd ["_law_k"] (sp0 ⟨mg, K⟩ f__law_odd 1 .news) := by
  have sc := sc__law_odd
  let N : List Str := N__law_odd
  let st : Stmt := s__law_odd
  refine fn_ok0 (Γ' := []) (sc := ⟨[], .news, [], []⟩) (k := 0) F sc [.flat] rfl (by decide) rfl fun cdv A outer s0 H E hr => ?_
  exact (ss_cons (sx_set (i := 1) 2 3 sc.nd rfl (by first | exact Or.inl rfl | exact Or.inr rfl) (ex_lst (ea_cons (ex_non) (ea_cons (ex_int) (ea_cons (ex_str) (ea_cons (ex_str) (ea_cons (ex_lst (ea_nil)) (ea_cons (ex_tup (ea_nil)) (ea_cons (ex_bl) (ea_cons (ex_tup (ea_cons (ex_int) (ea_cons (ex_int) (ea_cons (ex_lst (ea_cons (ex_lst (ea_cons (ex_int) (ea_nil))) (ea_nil))) (ea_nil))))) (ea_cons (ex_lst (ea_cons (ex_int) (ea_cons (ex_int) (ea_cons (ex_lst (ea_cons (ex_lst (ea_cons (ex_int) (ea_nil))) (ea_nil))) (ea_nil))))) (ea_cons (ex_tup (ea_cons (ex_int) (ea_cons (ex_int) (ea_nil)))) (ea_cons (ex_tup (ea_cons (ex_int) (ea_cons (ex_int) (ea_cons (ex_lst (ea_cons (ex_lst (ea_cons (ex_int) (ea_nil))) (ea_nil))) (ea_cons (ex_int) (ea_nil)))))) (ea_cons (ex_tup (ea_cons (ex_int) (ea_cons (ex_int) (ea_cons (ex_lst (ea_nil)) (ea_nil))))) (ea_nil)))))))))))))))
        (ss_cons (sx_set (i := 1) 4 5 sc.nd rfl (by first | exact Or.inl rfl | exact Or.inr rfl) (ex_cat (ex_var (k := .lab (some 2) [3] true) 1 rfl (by decide) rfl (by first | exact Or.inl rfl | exact Or.inr (Or.inl rfl) | exact Or.inr (Or.inr rfl))) (ex_lst (ea_cons (ex_tup (ea_cons (ex_int) (ea_cons (ex_int) (ea_cons (ex_lst (ea_nil)) (ea_nil))))) (ea_nil)))))
        (ss_cons (sx_set (i := 1) 6 7 sc.nd rfl (by first | exact Or.inl rfl | exact Or.inr rfl) (ex_cat (ex_var (k := .lab (some 4) [5, 3] false) 1 rfl (by decide) rfl (by first | exact Or.inl rfl | exact Or.inr (Or.inl rfl) | exact Or.inr (Or.inr rfl))) (ex_lst (ea_cons (ex_tup (ea_cons (ex_int) (ea_cons (ex_int) (ea_cons (ex_lst (ea_cons (ex_lst (ea_nil)) (ea_cons (ex_lst (ea_nil)) (ea_cons (ex_lst (ea_nil)) (ea_nil))))) (ea_nil))))) (ea_cons (ex_tup (ea_cons (ex_int) (ea_cons (ex_int) (ea_cons (ex_lst (ea_cons (ex_lst (ea_nil)) (ea_nil))) (ea_nil))))) (ea_cons (ex_tup (ea_cons (ex_int) (ea_cons (ex_int) (ea_cons (ex_lst (ea_nil)) (ea_nil))))) (ea_cons (ex_tup (ea_cons (ex_neg (ex_int)) (ea_cons (ex_int) (ea_cons (ex_lst (ea_nil)) (ea_nil))))) (ea_cons (ex_tup (ea_cons (ex_int) (ea_cons (ex_neg (ex_int)) (ea_cons (ex_lst (ea_nil)) (ea_nil))))) (ea_cons (ex_tup (ea_cons (ex_bl) (ea_cons (ex_int) (ea_cons (ex_lst (ea_cons (ex_lst (ea_cons (ex_int) (ea_nil))) (ea_nil))) (ea_nil))))) (ea_nil))))))))))
        (ss_cons (sx_set (i := 1) 8 9 sc.nd rfl (by first | exact Or.inl rfl | exact Or.inr rfl) (ex_cat (ex_var (k := .lab (some 6) [7, 4, 5, 3] false) 1 rfl (by decide) rfl (by first | exact Or.inl rfl | exact Or.inr (Or.inl rfl) | exact Or.inr (Or.inr rfl))) (ex_lst (ea_cons (ex_tup (ea_cons (ex_int) (ea_cons (ex_bl) (ea_cons (ex_lst (ea_cons (ex_lst (ea_cons (ex_int) (ea_nil))) (ea_nil))) (ea_nil))))) (ea_cons (ex_tup (ea_cons (ex_int) (ea_cons (ex_int) (ea_cons (ex_lst (ea_cons (ex_lst (ea_cons (ex_bl) (ea_nil))) (ea_nil))) (ea_nil))))) (ea_cons (ex_tup (ea_cons (ex_int) (ea_cons (ex_int) (ea_cons (ex_lst (ea_cons (ex_tup (ea_cons (ex_int) (ea_nil))) (ea_nil))) (ea_nil))))) (ea_cons (ex_tup (ea_cons (ex_int) (ea_cons (ex_int) (ea_cons (ex_tup (ea_cons (ex_lst (ea_cons (ex_int) (ea_nil))) (ea_nil))) (ea_nil))))) (ea_cons (ex_tup (ea_cons (ex_int) (ea_cons (ex_int) (ea_cons (ex_lst (ea_cons (ex_lst (ea_cons (ex_int) (ea_nil))) (ea_nil))) (ea_nil))))) (ea_cons (ex_tup (ea_cons (ex_int) (ea_cons (ex_int) (ea_cons (ex_lst (ea_cons (ex_lst (ea_cons (ex_int) (ea_nil))) (ea_nil))) (ea_nil))))) (ea_nil))))))))))
        (ss_cons (sx_set (i := 1) 10 11 sc.nd rfl (by first | exact Or.inl rfl | exact Or.inr rfl) (ex_cat (ex_var (k := .lab (some 8) [9, 6, 7, 4, 5, 3] false) 1 rfl (by decide) rfl (by first | exact Or.inl rfl | exact Or.inr (Or.inl rfl) | exact Or.inr (Or.inr rfl))) (ex_lst (ea_cons (ex_tup (ea_cons (ex_int) (ea_cons (ex_int) (ea_cons (ex_lst (ea_cons (ex_lst (ea_cons (ex_non) (ea_nil))) (ea_nil))) (ea_nil))))) (ea_cons (ex_tup (ea_cons (ex_int) (ea_cons (ex_int) (ea_cons (ex_lst (ea_cons (ex_lst (ea_cons (ex_str) (ea_nil))) (ea_nil))) (ea_nil))))) (ea_cons (ex_tup (ea_cons (ex_int) (ea_cons (ex_int) (ea_cons (ex_lst (ea_cons (ex_lst (ea_cons (ex_lst (ea_cons (ex_int) (ea_nil))) (ea_nil))) (ea_nil))) (ea_nil))))) (ea_cons (ex_tup (ea_cons (ex_str) (ea_cons (ex_int) (ea_cons (ex_lst (ea_cons (ex_lst (ea_cons (ex_int) (ea_nil))) (ea_nil))) (ea_nil))))) (ea_cons (ex_tup (ea_cons (ex_int) (ea_cons (ex_non) (ea_cons (ex_lst (ea_cons (ex_lst (ea_cons (ex_int) (ea_nil))) (ea_nil))) (ea_nil))))) (ea_cons (ex_tup (ea_cons (ex_int) (ea_cons (ex_int) (ea_cons (ex_non) (ea_nil))))) (ea_nil))))))))))
        (ss_one (sx_ret (ex_idx (ex_cat (ex_var (k := .lab (some 10) [11, 8, 9, 6, 7, 4, 5, 3] false) 1 rfl (by decide) rfl (by first | exact Or.inl rfl | exact Or.inr (Or.inl rfl) | exact Or.inr (Or.inr rfl))) (ex_lst (ea_cons (ex_tup (ea_cons (ex_int) (ea_cons (ex_int) (ea_cons (ex_str) (ea_nil))))) (ea_cons (ex_tup (ea_cons (ex_int) (ea_cons (ex_int) (ea_cons (ex_int) (ea_nil))))) (ea_cons (ex_tup (ea_cons (ex_int) (ea_cons (ex_int) (ea_cons (ex_lst (ea_cons (ex_int) (ea_nil))) (ea_nil))))) (ea_cons (ex_tup (ea_cons (ex_int) (ea_cons (ex_int) (ea_cons (ex_lst (ea_cons (ex_lst (ea_cons (ex_int) (ea_cons (ex_int) (ea_nil)))) (ea_cons (ex_lst (ea_cons (ex_int) (ea_nil))) (ea_nil)))) (ea_nil))))) (ea_cons (ex_tup (ea_cons (ex_int) (ea_cons (ex_int) (ea_cons (ex_tup (ea_nil)) (ea_nil))))) (ea_nil)))))))) (ex_mod (ex_var (k := .flat) 0 rfl (by decide) rfl (by first | exact Or.inl rfl | exact Or.inr (Or.inl rfl) | exact Or.inr (Or.inr rfl))) (ex_int))))))))))
theorem cal__law_odd {f : Addr} {fd : FuncData} (F : FnP K "_law_odd" s__law_odd f fd) (h : mg "_law_odd" = some (.ref f)) : Cal P w K mg base "_law_odd" 1 ["_law_k"] f__law_odd .news :=
  ⟨f, fd, ok__law_odd F, h, F.kp, FunD.bindsN F fun _ _ _ _ _ _ us hl => match us, hl with | [_], _ => rfl⟩
theorem sc_is_whole : FnScope N_is_whole ["thing"] (defScope s_is_whole) := ⟨rfl, rfl, rfl, by decide +kernel, rfl, by decide +kernel, by decide +kernel⟩
theorem ok_is_whole {f : Addr} {fd : FuncData} (F : FnP K "is_whole" s_is_whole f fd) (b_bool : mg "bool" = none) (b_int : mg "int" = none) (b_isinstance : mg "isinstance" = none) : FnOk P w K mg base CX0 1 f fd ["thing"] (sp0 ⟨mg, K⟩ f_is_whole 1 .flat) := by
  have sc := sc_is_whole
  let N : List Str := N_is_whole
  let st : Stmt := s_is_whole
  refine fn_ok0 (Γ' := []) (sc := ⟨[], .flat, [], []⟩) (k := 0) F sc [.lab none [0] false] rfl (by decide) rfl fun cdv A outer s0 H E hr => ?_
  exact (ss_one (sx_ret (ex_and (ex_isi (Ts := "int") rfl b_isinstance (by decide +kernel) rfl b_int (by decide +kernel) (ex_var (k := .lab none [0] false) 0 rfl (by decide) rfl (by first | exact Or.inl rfl | exact Or.inr (Or.inl rfl) | exact Or.inr (Or.inr rfl)))) (ex_one (ex_not (ex_isi (Ts := "bool") rfl b_isinstance (by decide +kernel) rfl b_bool (by decide +kernel) (ex_var (k := .lab none [0] false) 0 rfl (by decide) rfl (by first | exact Or.inl rfl | exact Or.inr (Or.inl rfl) | exact Or.inr (Or.inr rfl)))))))))
theorem cal_is_whole {f : Addr} {fd : FuncData} (F : FnP K "is_whole" s_is_whole f fd) (h : mg "is_whole" = some (.ref f)) (b_bool : mg "bool" = none) (b_int : mg "int" = none) (b_isinstance : mg "isinstance" = none) : Cal P w K mg base "is_whole" 1 ["thing"] f_is_whole .flat :=
  ⟨f, fd, ok_is_whole F b_bool b_int b_isinstance, h, F.kp, FunD.bindsN F fun _ _ _ _ _ _ us hl => match us, hl with | [_], _ => rfl⟩
theorem sc_is_size : FnScope N_is_size ["thing"] (defScope s_is_size) := ⟨rfl, rfl, rfl, by decide +kernel, rfl, by decide +kernel, by decide +kernel⟩
theorem ok_is_size {f : Addr} {fd : FuncData} (F : FnP K "is_size" s_is_size f fd) (c_is_whole : Cal P w K mg base "is_whole" 1 ["thing"] f_is_whole .flat) : FnOk P w K mg base CX0 2 f fd ["thing"] (sp0 ⟨mg, K⟩ f_is_size 1 .flat) := by
  have sc := sc_is_size
  let N : List Str := N_is_size
  let st : Stmt := s_is_size
  refine fn_ok0 (Γ' := []) (sc := ⟨[], .flat, [], []⟩) (k := 1) F sc [.lab none [0] false] rfl (by decide) rfl fun cdv A outer s0 H E hr => ?_
  exact (ss_one (sx_ret (ex_and (ex_calls_flat c_is_whole (hr.mono (by decide)) rfl (ea_cons (ex_var (k := .lab none [0] false) 0 rfl (by decide) rfl (by first | exact Or.inl rfl | exact Or.inr (Or.inl rfl) | exact Or.inr (Or.inr rfl))) (ea_nil))) (ex_one (ex_ge (ex_var (k := .lab none [0] false) 0 rfl (by decide) rfl (by first | exact Or.inl rfl | exact Or.inr (Or.inl rfl) | exact Or.inr (Or.inr rfl))) (ex_int))))))
theorem cal_is_size {f : Addr} {fd : FuncData} (F : FnP K "is_size" s_is_size f fd) (h : mg "is_size" = some (.ref f)) (c_is_whole : Cal P w K mg base "is_whole" 1 ["thing"] f_is_whole .flat) : Cal P w K mg base "is_size" 2 ["thing"] f_is_size .flat :=
  ⟨f, fd, ok_is_size F c_is_whole, h, F.kp, FunD.bindsN F fun _ _ _ _ _ _ us hl => match us, hl with | [_], _ => rfl⟩
theorem sc_is_row : FnScope N_is_row ["thing", "wide"] (defScope s_is_row) := ⟨rfl, rfl, rfl, by decide +kernel, rfl, by decide +kernel, by decide +kernel⟩
theorem ok_is_row {f : Addr} {fd : FuncData} (F : FnP K "is_row" s_is_row f fd) (b_all : mg "all" = none) (b_isinstance : mg "isinstance" = none) (b_len : mg "len" = none) (b_list : mg "list" = none) (c_is_whole : Cal P w K mg base "is_whole" 1 ["thing"] f_is_whole .flat) : FnOk P w K mg base CX0 2 f fd ["thing", "wide"] (sp0 ⟨mg, K⟩ f_is_row 2 .flat) := by
  have sc := sc_is_row
  let N : List Str := N_is_row
  let st : Stmt := s_is_row
  refine fn_ok0 (Γ' := []) (sc := ⟨[], .flat, [], []⟩) (k := 1) F sc [.lab none [0] false, .lab none [0] false] rfl (by decide) rfl fun cdv A outer s0 H E hr => ?_
  exact (ss_one (sx_ret (ex_and (ex_isi (Ts := "list") rfl b_isinstance (by decide +kernel) rfl b_list (by decide +kernel) (ex_var (k := .lab none [0] false) 0 rfl (by decide) rfl (by first | exact Or.inl rfl | exact Or.inr (Or.inl rfl) | exact Or.inr (Or.inr rfl)))) (ex_and (ex_eq hr.units (ex_callB call_len cp_len rfl b_len boot_len (ea_cons (ex_var (k := .lab none [0] false) 0 rfl (by decide) rfl (by first | exact Or.inl rfl | exact Or.inr (Or.inl rfl) | exact Or.inr (Or.inr rfl))) (ea_nil))) (ex_var (k := .lab none [0] false) 1 rfl (by decide) rfl (by first | exact Or.inl rfl | exact Or.inr (Or.inl rfl) | exact Or.inr (Or.inr rfl)))) (ex_one (ex_callB (cr_all rfl) cp_all rfl b_all (by decide +kernel) (ea_cons (ex_lc (own := [("one", 2)]) 2 rfl sc.nd (ei_list (ex_var (k := .lab none [0] false) 0 rfl (by decide) rfl (by first | exact Or.inl rfl | exact Or.inr (Or.inl rfl) | exact Or.inr (Or.inr rfl)))) (blkOk_by (by kernel_rfl)) (fun _ _ _ _ _ => eg_name sc.nd (i := 2) rfl (by first | exact Or.inl rfl | exact Or.inr rfl)) (fun _ _ _ _ _ => ets_nil) (fun _ _ _ _ _ => ex_calls_flat c_is_whole (hr.mono (by decide)) rfl (ea_cons (ex_var (k := .lab none [0] false) 2 rfl (by decide) rfl (by first | exact Or.inl rfl | exact Or.inr (Or.inl rfl) | exact Or.inr (Or.inr rfl))) (ea_nil)))) (ea_nil))))))))
theorem cal_is_row {f : Addr} {fd : FuncData} (F : FnP K "is_row" s_is_row f fd) (h : mg "is_row" = some (.ref f)) (b_all : mg "all" = none) (b_isinstance : mg "isinstance" = none) (b_len : mg "len" = none) (b_list : mg "list" = none) (c_is_whole : Cal P w K mg base "is_whole" 1 ["thing"] f_is_whole .flat) : Cal P w K mg base "is_row" 2 ["thing", "wide"] f_is_row .flat :=
  ⟨f, fd, ok_is_row F b_all b_isinstance b_len b_list c_is_whole, h, F.kp, FunD.bindsN F fun _ _ _ _ _ _ us hl => match us, hl with | [_, _], _ => rfl⟩
theorem sc_is_table : FnScope N_is_table ["thing"] (defScope s_is_table) := ⟨rfl, rfl, rfl, by decide +kernel, rfl, by decide +kernel, by decide +kernel⟩
theorem ok_is_table {f : Addr} {fd : FuncData} (F : FnP K "is_table" s_is_table f fd) (b_all : mg "all" = none) (b_isinstance : mg "isinstance" = none) (b_len : mg "len" = none) (b_list : mg "list" = none) (b_tuple : mg "tuple" = none) (c_is_size : Cal P w K mg base "is_size" 2 ["thing"] f_is_size .flat) (c_is_row : Cal P w K mg base "is_row" 2 ["thing", "wide"] f_is_row .flat) : FnOk P w K mg base CX0 3 f fd ["thing"] (sp0 ⟨mg, K⟩ f_is_table 1 .flat) := by
  have sc := sc_is_table
  let N : List Str := N_is_table
  let st : Stmt := s_is_table
  refine fn_ok0 (Γ' := []) (sc := ⟨[], .flat, [], []⟩) (k := 2) F sc [.lab none [0] false] rfl (by decide) rfl fun cdv A outer s0 H E hr => ?_
  exact (ss_cons (sx_if (et_w (ew_or (et_not (et_val (ex_isi (Ts := "tuple") rfl b_isinstance (by decide +kernel) rfl b_tuple (by decide +kernel) (ex_var (k := .lab none [0] false) 0 rfl (by decide) rfl (by first | exact Or.inl rfl | exact Or.inr (Or.inl rfl) | exact Or.inr (Or.inr rfl)))))) (ew_or (et_ne hr.units (ex_callB call_len cp_len rfl b_len boot_len (ea_cons (ex_var (k := .lab none [0] false) 0 rfl (by decide) rfl (by first | exact Or.inl rfl | exact Or.inr (Or.inl rfl) | exact Or.inr (Or.inr rfl))) (ea_nil))) (ex_int)) (ew_or (et_not (et_val (ex_calls_flat c_is_size (hr.mono (by decide)) rfl (ea_cons (ex_idx (ex_var (k := .lab none [0] false) 0 rfl (by decide) rfl (by first | exact Or.inl rfl | exact Or.inr (Or.inl rfl) | exact Or.inr (Or.inr rfl))) (ex_int)) (ea_nil))))) (ew_or1 (et_not (et_val (ex_calls_flat c_is_size (hr.mono (by decide)) rfl (ea_cons (ex_idx (ex_var (k := .lab none [0] false) 0 rfl (by decide) rfl (by first | exact Or.inl rfl | exact Or.inr (Or.inl rfl) | exact Or.inr (Or.inr rfl))) (ex_int)) (ea_nil))))))))))
        (ss_one (sx_ret (ex_bl)))
        (ss_nil))
        (ss_cons (sx_asg 2 3 (ex_var (k := .lab none [0] false) 0 rfl (by decide) rfl (by first | exact Or.inl rfl | exact Or.inr (Or.inl rfl) | exact Or.inr (Or.inr rfl))) (eg_tup rfl (egs_cons (eg_name sc.nd (i := 1) rfl (by first | exact Or.inl rfl | exact Or.inr rfl)) (egs_cons (eg_name sc.nd (i := 2) rfl (by first | exact Or.inl rfl | exact Or.inr rfl)) (egs_cons (eg_name sc.nd (i := 3) rfl (by first | exact Or.inl rfl | exact Or.inr rfl)) (egs_nil))))))
        (ss_one (sx_ret (ex_and (ex_isi (Ts := "list") rfl b_isinstance (by decide +kernel) rfl b_list (by decide +kernel) (ex_var (k := .lab none [0] false) 3 rfl (by decide) rfl (by first | exact Or.inl rfl | exact Or.inr (Or.inl rfl) | exact Or.inr (Or.inr rfl)))) (ex_and (ex_eq hr.units (ex_callB call_len cp_len rfl b_len boot_len (ea_cons (ex_var (k := .lab none [0] false) 3 rfl (by decide) rfl (by first | exact Or.inl rfl | exact Or.inr (Or.inl rfl) | exact Or.inr (Or.inr rfl))) (ea_nil))) (ex_var (k := .lab none [0] false) 1 rfl (by decide) rfl (by first | exact Or.inl rfl | exact Or.inr (Or.inl rfl) | exact Or.inr (Or.inr rfl)))) (ex_one (ex_callB (cr_all rfl) cp_all rfl b_all (by decide +kernel) (ea_cons (ex_lc (own := [("row", 4)]) 4 rfl sc.nd (ei_list (ex_var (k := .lab none [0] false) 3 rfl (by decide) rfl (by first | exact Or.inl rfl | exact Or.inr (Or.inl rfl) | exact Or.inr (Or.inr rfl)))) (blkOk_by (by kernel_rfl)) (fun _ _ _ _ _ => eg_name sc.nd (i := 4) rfl (by first | exact Or.inl rfl | exact Or.inr rfl)) (fun _ _ _ _ _ => ets_nil) (fun _ _ _ _ _ => ex_calls_flat c_is_row (hr.mono (by decide)) rfl (ea_cons (ex_var (k := .lab none [0] false) 4 rfl (by decide) rfl (by first | exact Or.inl rfl | exact Or.inr (Or.inl rfl) | exact Or.inr (Or.inr rfl))) (ea_cons (ex_var (k := .lab none [0] false) 2 rfl (by decide) rfl (by first | exact Or.inl rfl | exact Or.inr (Or.inl rfl) | exact Or.inr (Or.inr rfl))) (ea_nil))))) (ea_nil))))))))))
theorem cal_is_table {f : Addr} {fd : FuncData} (F : FnP K "is_table" s_is_table f fd) (h : mg "is_table" = some (.ref f)) (b_all : mg "all" = none) (b_isinstance : mg "isinstance" = none) (b_len : mg "len" = none) (b_list : mg "list" = none) (b_tuple : mg "tuple" = none) (c_is_size : Cal P w K mg base "is_size" 2 ["thing"] f_is_size .flat) (c_is_row : Cal P w K mg base "is_row" 2 ["thing", "wide"] f_is_row .flat) : Cal P w K mg base "is_table" 3 ["thing"] f_is_table .flat :=
  ⟨f, fd, ok_is_table F b_all b_isinstance b_len b_list b_tuple c_is_size c_is_row, h, F.kp, FunD.bindsN F fun _ _ _ _ _ _ us hl => match us, hl with | [_], _ => rfl⟩
theorem sc__law_whole : FnScope N__law_whole ["_law_thing"] (defScope s__law_whole) := ⟨rfl, rfl, rfl, by decide +kernel, rfl, by decide +kernel, by decide +kernel⟩
theorem ok__law_whole {f : Addr} {fd : FuncData} (F : FnP K "_law_whole" s__law_whole f fd) (b_bool : mg "bool" = none) (b_int : mg "int" = none) (b_isinstance : mg "isinstance" = none) : FnOk P w K mg base CX0 1 f fd ["_law_thing"] (sp0 ⟨mg, K⟩ f__law_whole 1 .flat) := by
  have sc := sc__law_whole
  let N : List Str := N__law_whole
  let st : Stmt := s__law_whole
  refine fn_ok0 (Γ' := []) (sc := ⟨[], .flat, [], []⟩) (k := 0) F sc [.lab none [0] false] rfl (by decide) rfl fun cdv A outer s0 H E hr => ?_
  exact (ss_one (sx_ret (ex_and (ex_isi (Ts := "int") rfl b_isinstance (by decide +kernel) rfl b_int (by decide +kernel) (ex_var (k := .lab none [0] false) 0 rfl (by decide) rfl (by first | exact Or.inl rfl | exact Or.inr (Or.inl rfl) | exact Or.inr (Or.inr rfl)))) (ex_one (ex_not (ex_isi (Ts := "bool") rfl b_isinstance (by decide +kernel) rfl b_bool (by decide +kernel) (ex_var (k := .lab none [0] false) 0 rfl (by decide) rfl (by first | exact Or.inl rfl | exact Or.inr (Or.inl rfl) | exact Or.inr (Or.inr rfl)))))))))
theorem cal__law_whole {f : Addr} {fd : FuncData} (F : FnP K "_law_whole" s__law_whole f fd) (h : mg "_law_whole" = some (.ref f)) (b_bool : mg "bool" = none) (b_int : mg "int" = none) (b_isinstance : mg "isinstance" = none) : Cal P w K mg base "_law_whole" 1 ["_law_thing"] f__law_whole .flat :=
  ⟨f, fd, ok__law_whole F b_bool b_int b_isinstance, h, F.kp, FunD.bindsN F fun _ _ _ _ _ _ us hl => match us, hl with | [_], _ => rfl⟩
theorem sc__law_is_table : FnScope N__law_is_table ["_law_thing"] (defScope s__law_is_table) := ⟨rfl, rfl, rfl, by decide +kernel, rfl, by decide +kernel, by decide +kernel⟩
theorem ok__law_is_table {f : Addr} {fd : FuncData} (F : FnP K "_law_is_table" s__law_is_table f fd) (b_isinstance : mg "isinstance" = none) (b_len : mg "len" = none) (b_list : mg "list" = none) (b_tuple : mg "tuple" = none) (c__law_whole : Cal P w K mg base "_law_whole" 1 ["_law_thing"] f__law_whole .flat) : FnOk P w K mg base CX0 2 f fd ["_law_thing"] (sp0 ⟨mg, K⟩ f__law_is_table 1 .flat) := by
  have sc := sc__law_is_table
  let N : List Str := N__law_is_table
  let st : Stmt := s__law_is_table
  refine fn_ok0 (Γ' := []) (sc := ⟨[], .flat, [], []⟩) (k := 1) F sc [.lab none [0] false] rfl (by decide) rfl fun cdv A outer s0 H E hr => ?_
  exact (ss_cons (sx_if (et_w (ew_or (et_not (et_val (ex_isi (Ts := "tuple") rfl b_isinstance (by decide +kernel) rfl b_tuple (by decide +kernel) (ex_var (k := .lab none [0] false) 0 rfl (by decide) rfl (by first | exact Or.inl rfl | exact Or.inr (Or.inl rfl) | exact Or.inr (Or.inr rfl)))))) (ew_or (et_ne hr.units (ex_callB call_len cp_len rfl b_len boot_len (ea_cons (ex_var (k := .lab none [0] false) 0 rfl (by decide) rfl (by first | exact Or.inl rfl | exact Or.inr (Or.inl rfl) | exact Or.inr (Or.inr rfl))) (ea_nil))) (ex_int)) (ew_or (et_not (et_val (ex_calls_flat c__law_whole (hr.mono (by decide)) rfl (ea_cons (ex_idx (ex_var (k := .lab none [0] false) 0 rfl (by decide) rfl (by first | exact Or.inl rfl | exact Or.inr (Or.inl rfl) | exact Or.inr (Or.inr rfl))) (ex_int)) (ea_nil))))) (ew_or1 (et_not (et_val (ex_calls_flat c__law_whole (hr.mono (by decide)) rfl (ea_cons (ex_idx (ex_var (k := .lab none [0] false) 0 rfl (by decide) rfl (by first | exact Or.inl rfl | exact Or.inr (Or.inl rfl) | exact Or.inr (Or.inr rfl))) (ex_int)) (ea_nil))))))))))
        (ss_one (sx_ret (ex_bl)))
        (ss_nil))
        (ss_cons (sx_if (et_w (ew_or (et_not (et_val (ex_isi (Ts := "list") rfl b_isinstance (by decide +kernel) rfl b_list (by decide +kernel) (ex_idx (ex_var (k := .lab none [0] false) 0 rfl (by decide) rfl (by first | exact Or.inl rfl | exact Or.inr (Or.inl rfl) | exact Or.inr (Or.inr rfl))) (ex_int))))) (ew_or (et_ne hr.units (ex_callB call_len cp_len rfl b_len boot_len (ea_cons (ex_idx (ex_var (k := .lab none [0] false) 0 rfl (by decide) rfl (by first | exact Or.inl rfl | exact Or.inr (Or.inl rfl) | exact Or.inr (Or.inr rfl))) (ex_int)) (ea_nil))) (ex_idx (ex_var (k := .lab none [0] false) 0 rfl (by decide) rfl (by first | exact Or.inl rfl | exact Or.inr (Or.inl rfl) | exact Or.inr (Or.inr rfl))) (ex_int))) (ew_or1 (et_lt (ex_idx (ex_var (k := .lab none [0] false) 0 rfl (by decide) rfl (by first | exact Or.inl rfl | exact Or.inr (Or.inl rfl) | exact Or.inr (Or.inr rfl))) (ex_int)) (ex_int))))))
        (ss_one (sx_ret (ex_bl)))
        (ss_nil))
        (ss_cons (sx_for 2 rfl PassesOwn.never (ei_list (ex_idx (ex_var (k := .lab none [0] false) 0 rfl (by decide) rfl (by first | exact Or.inl rfl | exact Or.inr (Or.inl rfl) | exact Or.inr (Or.inr rfl))) (ex_int))) (eg_name sc.nd (i := 1) rfl (by first | exact Or.inl rfl | exact Or.inr rfl))
        (ss_conv (Γ' := [.lab none [0] false, .dead, .dead]) [] (ss_cons (sx_if (et_w (ew_or (et_not (et_val (ex_isi (Ts := "list") rfl b_isinstance (by decide +kernel) rfl b_list (by decide +kernel) (ex_var (k := .lab none [0] false) 1 rfl (by decide) rfl (by first | exact Or.inl rfl | exact Or.inr (Or.inl rfl) | exact Or.inr (Or.inr rfl)))))) (ew_or1 (et_ne hr.units (ex_callB call_len cp_len rfl b_len boot_len (ea_cons (ex_var (k := .lab none [0] false) 1 rfl (by decide) rfl (by first | exact Or.inl rfl | exact Or.inr (Or.inl rfl) | exact Or.inr (Or.inr rfl))) (ea_nil))) (ex_idx (ex_var (k := .lab none [0] false) 0 rfl (by decide) rfl (by first | exact Or.inl rfl | exact Or.inr (Or.inl rfl) | exact Or.inr (Or.inr rfl))) (ex_int))))))
        (ss_one (sx_ret (ex_bl)))
        (ss_nil))
        (ss_one (sx_for 3 rfl PassesOwn.never (ei_list (ex_var (k := .lab none [0] false) 1 rfl (by decide) rfl (by first | exact Or.inl rfl | exact Or.inr (Or.inl rfl) | exact Or.inr (Or.inr rfl)))) (eg_name sc.nd (i := 2) rfl (by first | exact Or.inl rfl | exact Or.inr rfl))
        (ss_conv (Γ' := [.lab none [0] false, .lab none [0] false, .dead]) [] (ss_one (sx_if (et_not (et_val (ex_calls_flat c__law_whole (hr.mono (by decide)) rfl (ea_cons (ex_var (k := .lab none [0] false) 2 rfl (by decide) rfl (by first | exact Or.inl rfl | exact Or.inr (Or.inl rfl) | exact Or.inr (Or.inr rfl))) (ea_nil)))))
        (ss_one (sx_ret (ex_bl)))
        (ss_nil))) (by decide) (by decide))))) (by decide) (by decide)))
        (ss_one (sx_ret (ex_bl))))))
theorem cal__law_is_table {f : Addr} {fd : FuncData} (F : FnP K "_law_is_table" s__law_is_table f fd) (h : mg "_law_is_table" = some (.ref f)) (b_isinstance : mg "isinstance" = none) (b_len : mg "len" = none) (b_list : mg "list" = none) (b_tuple : mg "tuple" = none) (c__law_whole : Cal P w K mg base "_law_whole" 1 ["_law_thing"] f__law_whole .flat) : Cal P w K mg base "_law_is_table" 2 ["_law_thing"] f__law_is_table .flat :=
  ⟨f, fd, ok__law_is_table F b_isinstance b_len b_list b_tuple c__law_whole, h, F.kp, FunD.bindsN F fun _ _ _ _ _ _ us hl => match us, hl with | [_], _ => rfl⟩
theorem sc_law : FnScope N_law ["_law_script"] (defScope s_law) := ⟨rfl, rfl, rfl, by decide +kernel, rfl, by decide +kernel, by decide +kernel⟩
theorem ok_law {f : Addr} {fd : FuncData} (F : FnP K "law" s_law f fd) (b_bool : mg "bool" = none) (b_isinstance : mg "isinstance" = none) (b_repr : mg "repr" = none) (c__law_row : Cal P w K mg base "_law_row" 1 ["_law_cell", "_law_many", "_law_base"] f__law_row .fresh) (c__law_cell_at : Cal P w K mg base "_law_cell_at" 1 ["_law_script", "_law_k"] f__law_cell_at .flat) (c__law_table : Cal P w K mg base "_law_table" 2 ["_law_cell", "_law_high", "_law_wide"] f__law_table .fresh) (c__law_spoiled : Cal P w K mg base "_law_spoiled" 2 ["_law_table_here", "_law_row_here"] f__law_spoiled .news) (c__law_odd : Cal P w K mg base "_law_odd" 1 ["_law_k"] f__law_odd .news) (c_is_table : Cal P w K mg base "is_table" 3 ["thing"] f_is_table .flat) (c__law_is_table : Cal P w K mg base "_law_is_table" 2 ["_law_thing"] f__law_is_table .flat) : OkC P w K mg base f fd ["_law_script"] (sp0 ⟨mg, K⟩ f_law 1 .flat) := by
  have sc := sc_law
  let N : List Str := N_law
  let st : Stmt := s_law
  refine fn_okC (Γ' := []) (sc := ⟨[], .flat, [], []⟩) (k := 3) F sc [.flat] rfl (by decide) rfl ⟨rfl, by decide, by decide⟩ fun cdv A s0 H E hgA hr => ?_
  exact (ss_cons (sx_set (i := 1) 2 3 sc.nd rfl (by first | exact Or.inl rfl | exact Or.inr rfl) (ex_kids (ex_calls_fresh c__law_row (hr.mono (by decide)) rfl (ea_cons (ex_calls_flat c__law_cell_at (hr.mono (by decide)) rfl (ea_cons (ex_var (k := .flat) 0 rfl (by decide) rfl (by first | exact Or.inl rfl | exact Or.inr (Or.inl rfl) | exact Or.inr (Or.inr rfl))) (ea_cons (ex_int) (ea_nil)))) (ea_cons (ex_int) (ea_cons (ex_int) (ea_nil)))))))
        (ss_cons (sx_par (i := 2) (j := 3) rfl sc.nd rfl rfl rfl rfl (ea_cons (ex_mod (ex_flat (ex_idx (ex_var (k := .lab (some 2) [] true) 1 rfl (by decide) rfl (by first | exact Or.inl rfl | exact Or.inr (Or.inl rfl) | exact Or.inr (Or.inr rfl))) (ex_int))) (ex_int)) (ea_cons (ex_mod (ex_flat (ex_idx (ex_var (k := .lab (some 2) [] true) 1 rfl (by decide) rfl (by first | exact Or.inl rfl | exact Or.inr (Or.inl rfl) | exact Or.inr (Or.inr rfl))) (ex_int))) (ex_int)) (ea_nil))))
        (ss_cons (sx_if (et_eq hr.units (ex_mod (ex_flat (ex_idx (ex_var (k := .lab (some 2) [] true) 1 rfl (by decide) rfl (by first | exact Or.inl rfl | exact Or.inr (Or.inl rfl) | exact Or.inr (Or.inr rfl))) (ex_int))) (ex_int)) (ex_int))
        (ss_one (sx_asg 4 5 (ex_flat (ex_idx (ex_lst (ea_cons (ex_tup (ea_cons (ex_mod (ex_flat (ex_idx (ex_var (k := .lab (some 2) [] true) 1 rfl (by decide) rfl (by first | exact Or.inl rfl | exact Or.inr (Or.inl rfl) | exact Or.inr (Or.inr rfl))) (ex_int))) (ex_int)) (ea_cons (ex_mod (ex_flat (ex_idx (ex_var (k := .lab (some 2) [] true) 1 rfl (by decide) rfl (by first | exact Or.inl rfl | exact Or.inr (Or.inl rfl) | exact Or.inr (Or.inr rfl))) (ex_int))) (ex_int)) (ea_nil)))) (ea_cons (ex_tup (ea_cons (ex_mod (ex_flat (ex_idx (ex_var (k := .lab (some 2) [] true) 1 rfl (by decide) rfl (by first | exact Or.inl rfl | exact Or.inr (Or.inl rfl) | exact Or.inr (Or.inr rfl))) (ex_int))) (ex_int)) (ea_cons (ex_mod (ex_flat (ex_idx (ex_var (k := .lab (some 2) [] true) 1 rfl (by decide) rfl (by first | exact Or.inl rfl | exact Or.inr (Or.inl rfl) | exact Or.inr (Or.inr rfl))) (ex_int))) (ex_int)) (ea_nil)))) (ea_nil)))) (ex_mod (ex_div (ex_flat (ex_idx (ex_var (k := .lab (some 2) [] true) 1 rfl (by decide) rfl (by first | exact Or.inl rfl | exact Or.inr (Or.inl rfl) | exact Or.inr (Or.inr rfl))) (ex_int))) (ex_int)) (ex_int)))) (eg_tup rfl (egs_cons (eg_name sc.nd (i := 2) rfl (by first | exact Or.inl rfl | exact Or.inr rfl)) (egs_cons (eg_name sc.nd (i := 3) rfl (by first | exact Or.inl rfl | exact Or.inr rfl)) (egs_nil))))))
        (ss_nil))
        (ss_cons (sx_set (i := 4) 6 7 sc.nd rfl (by first | exact Or.inl rfl | exact Or.inr rfl) (ex_calls_fresh c__law_table (hr.mono (by decide)) rfl (ea_cons (ex_calls_flat c__law_cell_at (hr.mono (by decide)) rfl (ea_cons (ex_var (k := .flat) 0 rfl (by decide) rfl (by first | exact Or.inl rfl | exact Or.inr (Or.inl rfl) | exact Or.inr (Or.inr rfl))) (ea_cons (ex_int) (ea_nil)))) (ea_cons (ex_var (k := .flat) 2 rfl (by decide) rfl (by first | exact Or.inl rfl | exact Or.inr (Or.inl rfl) | exact Or.inr (Or.inr rfl))) (ea_cons (ex_var (k := .flat) 3 rfl (by decide) rfl (by first | exact Or.inl rfl | exact Or.inr (Or.inl rfl) | exact Or.inr (Or.inr rfl))) (ea_nil))))))
        (ss_cons (sx_for 8 rfl PassesOwn.never (ei_list (ex_lst (ea_cons (ex_var (k := .lab (some 6) [7] true) 4 rfl (by decide) rfl (by first | exact Or.inl rfl | exact Or.inr (Or.inl rfl) | exact Or.inr (Or.inr rfl))) (ea_cons (ex_calls_news c__law_spoiled (hr.mono (by decide)) rfl (ea_cons (ex_var (k := .lab (some 6) [7] true) 4 rfl (by decide) rfl (by first | exact Or.inl rfl | exact Or.inr (Or.inl rfl) | exact Or.inr (Or.inr rfl))) (ea_cons (ex_slL (ex_var (k := .lab (some 2) [] true) 1 rfl (by decide) rfl (by first | exact Or.inl rfl | exact Or.inr (Or.inl rfl) | exact Or.inr (Or.inr rfl))) (eo_some (ex_int)) (eo_none)) (ea_nil)))) (ea_cons (ex_calls_news c__law_odd (hr.mono (by decide)) rfl (ea_cons (ex_calls_flat c__law_cell_at (hr.mono (by decide)) rfl (ea_cons (ex_var (k := .flat) 0 rfl (by decide) rfl (by first | exact Or.inl rfl | exact Or.inr (Or.inl rfl) | exact Or.inr (Or.inr rfl))) (ea_cons (ex_int) (ea_nil)))) (ea_nil))) (ea_nil)))))) (eg_name sc.nd (i := 5) rfl (by first | exact Or.inl rfl | exact Or.inr rfl))
        (ss_conv (Γ' := [.flat, .lab (some 2) [] true, .flat, .flat, .lab (some 6) [7] true, .dead, .dead, .dead]) [] (ss_cons (sx_set (i := 6) 9 10 sc.nd rfl (by first | exact Or.inl rfl | exact Or.inr rfl) (ex_callB (call_show hgA hr.units) cp_show rfl b_repr (by decide +kernel) (ea_cons (ex_var (k := .lab none [8, 6, 7] false) 5 rfl (by decide) rfl (by first | exact Or.inl rfl | exact Or.inr (Or.inl rfl) | exact Or.inr (Or.inr rfl))) (ea_nil))))
        (ss_cons (sx_set (i := 7) 11 12 sc.nd rfl (by first | exact Or.inl rfl | exact Or.inr rfl) (ex_calls_flat c_is_table (hr.mono (by decide)) rfl (ea_cons (ex_var (k := .lab none [8, 6, 7] false) 5 rfl (by decide) rfl (by first | exact Or.inl rfl | exact Or.inr (Or.inl rfl) | exact Or.inr (Or.inr rfl))) (ea_nil))))
        (ss_one (sx_if (et_w (ew_or (et_not (et_val (ex_isi (Ts := "bool") rfl b_isinstance (by decide +kernel) rfl b_bool (by decide +kernel) (ex_var (k := .flat) 7 rfl (by decide) rfl (by first | exact Or.inl rfl | exact Or.inr (Or.inl rfl) | exact Or.inr (Or.inr rfl)))))) (ew_or (et_ne hr.units (ex_var (k := .flat) 7 rfl (by decide) rfl (by first | exact Or.inl rfl | exact Or.inr (Or.inl rfl) | exact Or.inr (Or.inr rfl))) (ex_calls_flat c__law_is_table (hr.mono (by decide)) rfl (ea_cons (ex_var (k := .lab none [8, 6, 7] false) 5 rfl (by decide) rfl (by first | exact Or.inl rfl | exact Or.inr (Or.inl rfl) | exact Or.inr (Or.inr rfl))) (ea_nil)))) (ew_or1 (et_neS (ex_callB (call_show hgA hr.units) cp_show rfl b_repr (by decide +kernel) (ea_cons (ex_var (k := .lab none [8, 6, 7] false) 5 rfl (by decide) rfl (by first | exact Or.inl rfl | exact Or.inr (Or.inl rfl) | exact Or.inr (Or.inr rfl))) (ea_nil))) (ex_var (k := .flat) 6 rfl (by decide) rfl (by first | exact Or.inl rfl | exact Or.inr (Or.inl rfl) | exact Or.inr (Or.inr rfl))))))))
        (ss_one (sx_ret (ex_bl)))
        (ss_nil))))) (by decide) (by decide)))
        (ss_one (sx_ret (ex_bl))))))))
end
end K01

/-! ## VFQ -/
/-! the law's own ends, bits, copies -/
namespace VP
open PySem PySem.Spec PyProof.Rows L2 VV VP
end VP

/-! ## VFR -/
/-! heaps of names, plain -/
namespace VP
open PySem PySem.Spec PyProof.Rows L2 VV VP
structure Hps (N : List Int) (Ps : List (Int × Int)) (H : List (List Int)) : Prop where
  pm : H.flatten.Perm N
  ne : ∀ h ∈ H, h ≠ []
  eq : ∀ h ∈ H, ∀ a ∈ h, ∀ b ∈ h, Eqn Ps a b
  pr : ∀ p ∈ Ps, ∃ h ∈ H, p.1 ∈ h ∧ p.2 ∈ h
section
variable {N : List Int} {Ps : List (Int × Int)} {H : List (List Int)} (hN : N.Nodup) (h : Hps N Ps H)
include hN h
end
end VP

/-! ## VFS -/
/-! heaps in order are the loops -/
namespace VP
open PySem PySem.Spec PyProof.Rows L2 VV VP
end VP

/-! ## VFT -/
/-! the law's own loops -/
namespace VP
open PySem PySem.Spec PyProof.Rows L2 VV VP
section
variable {rs : List Int} {cs : List Cr} {bs : List Int} (g : Good rs cs) (hl : rs.length + 4 * cs.length < 64) (hb : bs.length = cs.length) (hb01 : ∀ b ∈ bs, b = 0 ∨ b = 1)
include g hl hb hb01
end
end VP

/-! ## VFU -/
/-! chains of a partial injection: a class from its start to its end -/
namespace VP
open PySem PySem.Spec PyProof.Rows L2 VV VP
section
variable {Pr : List (Int × Int)} {N : List Int} {f : Int → Option Int}
end
end VP

/-! ## VCyc -/
/-! walks that come back: a map of a list of names into itself, injective -/
namespace VP
open PySem PySem.Spec PyProof.Rows L2 VV VP
variable {α : Type} [DecidableEq α]
section
variable {f : α → α} {N : List α} (hm : ∀ n ∈ N, f n ∈ N) (hi : ∀ a ∈ N, ∀ b ∈ N, f a = f b → a = b)
include hm
include hi
end
end VP

/-! ## VCy -/
/-! rounds of an injective map, told by lists; how they change -/
namespace VQ
variable {α : Type} [DecidableEq α]
def Path (φ : α → α) : α → List α → α → Prop
  | a, [], b => φ a = b
  | a, x :: l, b => φ a = x ∧ Path φ x l b
def Rd (φ : α → α) : List α → Prop
  | [] => False
  | x :: l => Path φ x l x
structure Cyc (K : List α) (φ : α → α) (C : List (List α)) : Prop where
  nd : C.flatten.Nodup
  mem : ∀ z, z ∈ C.flatten ↔ z ∈ K
  rd : ∀ c ∈ C, Rd φ c
def Same (C : List (List α)) (a b : α) : Prop := ∃ c ∈ C, a ∈ c ∧ b ∈ c
section
variable {K K' : List α} {φ ψ : α → α} {C : List (List α)}
theorem Cyc.rest {Cs R : List (List α)} (h : Cyc K φ (Cs ++ R)) : Cyc R.flatten φ R := by
  have n := h.nd
  rw [List.flatten_append, List.nodup_append] at n
  exact ⟨n.2.1, fun _ => Iff.rfl, fun c hc => h.rd c (List.mem_append_right _ hc)⟩
end
end VQ

/-! ## VCz -/
/-! rounds: a thing put in, two values changed about, other names, how many -/
namespace VQ
variable {α : Type} [DecidableEq α]
section
variable {K : List α} {φ : α → α} {C : List (List α)}
/-! ### how many -/
end
end VQ

/-! ## VGoN -/
/-! evaluation of the newest statements -/
namespace VV
open PySem PySem.Spec PyProof.Rows L2
section
variable {i j : Nat} {ρ ρ' : List D} {d e : D} {a : List D → Option (List D)} {b : Sv} {t : Tv} {Q : Out → Prop}
theorem Go.par (h : a ρ = some [d, e]) (k : Go b ((ρ.set i d).set j e) Q) : Go (sSeq (sPar i j a) b) ρ Q := by
  rw [go_seq]
  refine ⟨.nx ((ρ.set i d).set j e), ?_, k⟩
  unfold sPar
  rw [h]
end
/-- a dict of nested keys, by the keys' names -/
structure Nks {α : Type} (x : α → D) (key : α → NestedKey) : Prop where
  nk : ∀ a, (x a).nk = some (key a)
  nkT : ∀ a, (x a).nkT = some (key a)
  fl : ∀ a, (x a).isFlat = true
  inj : ∀ a b, key a = key b → a = b
section
variable {α : Type} [DecidableEq α] {x : α → D} {key : α → NestedKey} (h : Nks x key) {N : List α} {f : α → D}
include h
end
end VV
namespace VV
open PySem PySem.Spec PyProof.Rows L2
theorem flatL_int : ∀ l : List Int, D.isFlatL (l.map D.int) = true
  | [] => by simp [D.isFlatL]
  | _ :: r => by simp [D.isFlatL, D.isFlat, flatL_int r]
end VV

/-! ## VExg -/
/-! exceptions, evaluated -/
namespace VV
open PySem PySem.Spec PyProof.Rows L2
section
variable {i n : Nat} {ρ ρ' ds : List D} {d : D} {b s m : Sv} {L : List Str} {y c : Str} {pk : List Kd} {r : List D → Option Res} {Q : Out → Prop} {f : List D → Option Res} {a : List D → Option (List D)} {t : List D → Option Bool}
@[simp] theorem go_raise : Go (sRaise c) ρ Q = Q (.ex c ρ) := by
  unfold Go sRaise
  simp
@[simp] theorem cont_ex : Cont b Q (.ex c ρ) = Q (.ex c ρ) := rfl
theorem Go.yes (h : t ρ = some true) (k : Go s ρ (Cont b Q)) : Go (sSeq (sIf t s sNil) b) ρ Q := by
  rw [go_seq, go_t h]
  exact k
/-- a loop that ends early, at a -/
theorem go_for_rt {α : Type} {u : Tv} {it : List D → Option (List D)} (x : α → D) (pre : List α) (a : α) (post : List α) (R : Nat → List D → Prop) (hit : it ρ = some ((pre ++ a :: post).map x)) (h0 : R 0 ρ) (k : ∀ i c ρ, pre[i]? = some c → R i ρ → Turn u b (R (i + 1)) (x c) ρ)
    (fin : ∀ ρ', R pre.length ρ' → ∃ ρ1, u (x a) ρ' = some ρ1 ∧ Go b ρ1 fun o => (∃ d, o = .rt d) ∧ Q o) : Go (sFor it u b) ρ Q := by
  have gen : ∀ (m i : Nat) (ρ : List D), m = pre.length - i → i ≤ pre.length → R i ρ → ∃ o, forL u b ((pre.drop i ++ a :: post).map x) ρ = some o ∧ Q o := by
    intro m
    induction m with
    | zero =>
      intro i ρ hm hi h
      have : i = pre.length := by omega
      subst this
      obtain ⟨ρ1, h1, o, h2, ⟨d, rfl⟩, h3⟩ := fin ρ h
      refine ⟨.rt d, ?_, h3⟩
      rw [List.drop_length]
      show forL u b (x a :: post.map x) ρ = _
      unfold forL
      rw [h1]
      dsimp only
      rw [h2]
    | succ m ih =>
      intro i ρ hm hi h
      have hlt : i < pre.length := by omega
      obtain ⟨ρ1, h1, o, h2, ρ2, h3, h4⟩ := k i pre[i] ρ (List.getElem?_eq_getElem hlt) h
      obtain ⟨o', h5, h6⟩ := ih (i + 1) ρ2 (by omega) hlt h4
      refine ⟨o', ?_, h6⟩
      rw [List.drop_eq_getElem_cons hlt]
      show forL u b (x pre[i] :: (pre.drop (i + 1) ++ a :: post).map x) ρ = _
      unfold forL
      rw [h1]
      dsimp only
      rw [h2]
      rcases h3 with rfl | rfl <;> exact h5
  obtain ⟨o, h1, h2⟩ := gen pre.length 0 ρ (by simp) (Nat.zero_le _) h0
  refine ⟨o, ?_, h2⟩
  rw [sFor_s, hit]
  exact h1
end
end VV
namespace VP
open PySem PySem.Spec PyProof.Rows L2 VV
end VP

/-! ## VFV -/
/-! the edges of an opening, led by the colours -/
namespace VP
open PySem PySem.Spec PyProof.Rows L2 VV VP
end VP

/-! ## VFW -/
/-! the heart of turning over: one place of an opening -/
namespace VP
open PySem PySem.Spec PyProof.Rows L2 VV VP
end VP

/-! ## VFX -/
/-! two loops joined: places in both lists -/
namespace VP
open PySem PySem.Spec PyProof.Rows L2 VV VP
end VP

/-! ## VFY -/
/-! an opening turned over at one place: its loops and those of the next one -/
namespace VP
open PySem PySem.Spec PyProof.Rows L2 VV VP
/-- sep: the loops of one opening; the other one has two of them joined -/
structure Apart (N : List Int) (Ps Qs : List (Int × Int)) (rt : Int → Int) (a b : Int) : Prop where
  p : IsRt Ps rt
  q : IsRt Qs (joinR rt a b)
  ha : a ∈ N
  hb : b ∈ N
  ne : rt a ≠ rt b
  me : ∀ n ∈ N, rt n ∈ N
end VP

/-! ## VFZ -/
/-! drawings are alike to themselves -/
namespace VP
open PySem PySem.Spec PyProof.Rows L2 VV VP
theorem crD_ints {x : Cr} : crD x = .tup ([x.s, x.a, x.b, x.c, x.d].map D.int) := rfl
end VP

/-! ## VQa -/
namespace VQ
open PySem PySem.Spec PyProof.Rows L2 VV VP
/-- where each side of a crossing's stretches leads -/
def onL (x : Cr) : List ((Int × Bool) × (Int × Bool)) := if x.s = 1 then [((x.a, true), (x.c, false)), ((x.d, false), (x.a, false)), ((x.b, false), (x.d, true)), ((x.c, true), (x.b, true))]
  else [((x.a, true), (x.d, true)), ((x.c, true), (x.a, false)), ((x.b, false), (x.c, false)), ((x.d, false), (x.b, true))]
def onA (cs : List Cr) : List ((Int × Bool) × (Int × Bool)) := cs.flatMap onL
end VQ

/-! ## VNet -/
/-! drawings by their rings, ins and outs alone; a name cut in three -/
namespace VP
open PySem PySem.Spec PyProof.Rows L2 VV VP
structure Net (R I O : List Int) : Prop where
  nd : (R ++ I).Nodup
  op : O.Perm I
end VP

/-! ## VQb -/
namespace VQ
open PySem PySem.Spec PyProof.Rows L2 VV VP
abbrev NetC (rs : List Int) (cs : List Cr) : Prop := Net rs (insC cs) (outsC cs)
section
variable {rs : List Int} {cs : List Cr} (g : NetC rs cs)
include g
end
end VQ

/-! ## VQc -/
namespace VQ
open PySem PySem.Spec PyProof.Rows L2 VV VP
end VQ

/-! ## VQd -/
namespace VQ
open PySem PySem.Spec PyProof.Rows L2 VV VP
def sideD (b : Bool) : D := .str (PySem.Str.ofString (if b = true then "left" else "right"))
end VQ

/-! ## VQe -/
namespace VQ
open PySem PySem.Spec PyProof.Rows L2 VV VP
end VQ

/-! ## VQf -/
namespace VQ
open PySem PySem.Spec PyProof.Rows L2 VV VP
theorem idx_modG {α : Type} (x : α → D) (l : List α) (n z : Int) (hn : n = l.length) (h : 0 < l.length) : ∃ v ∈ l, dIdx [.lst (l.map x), .int (z % n)] = some (x v) := by
  have h1 := Int.emod_nonneg z (b := n) (by omega)
  have h2 := Int.emod_lt_of_pos z (b := n) (by omega)
  have h3 : (z % n).toNat < l.length := by omega
  refine ⟨l[(z % n).toNat], List.getElem_mem h3, ?_⟩
  rw [dIdx_l, atI_of (k := (z % n).toNat) (by omega)]
  simp [h3]
theorem side_flat {b : Bool} : (sideD b).isFlat = true := rfl
theorem ne_int {a b : Int} : dNe [.int a, .int b] = some (.bl (decide (a ≠ b))) := ne_of_eqv Eqv.int Ok.int Ok.int (by decide)
end VQ

/-! ## VQg -/
namespace VQ
open PySem PySem.Spec PyProof.Rows L2 VV VP
end VQ

/-! ## VQn -/
namespace VQ
open PySem PySem.Spec PyProof.Rows L2 VV VP
/-- the names given so far -/
structure Nmf (K : List Int) (far : Int) (φ : Int → Int) : Prop where
  nd : K.Nodup
  vl : ∀ (j : Nat) (n : Int), K[j]? = some n → ∃ r : Int, φ n = far * r + j
  bd : ∀ n ∈ K, Bn 192 (φ n)
end VQ

/-! ## VQo -/
namespace VQ
open PySem PySem.Spec PyProof.Rows L2 VV VP
end VQ

/-! ## VQr -/
/-! what refuses -/
namespace VQ
open PySem PySem.Spec PyProof.Rows L2 VV VP
section
variable {ρ : List D} {b : Sv} {r : List D → Option Res} {c : Str} {d : D} {Q : Out → Prop}
end
/-- no whole number, or a truth -/
def NoInt (d : D) : Prop := dIsi "int" [d] = some (.bl false) ∨ ∃ b, d = .bl b
theorem isi_bl {b : Bool} : dIsi "int" [.bl b] = some (.bl true) ∧ dIsi "bool" [.bl b] = some (.bl true) := ⟨isi_s (N := "bool") rfl (by decide +kernel), isi_s (N := "bool") rfl (by decide +kernel)⟩
theorem noInt_non : NoInt .non := .inl (isi_s (N := "NoneType") rfl (by decide +kernel))
theorem noInt_str {s : Str} : NoInt (.str s) := .inl (isi_s (N := "str") rfl (by decide +kernel))
theorem noInt_lst {l : List D} : NoInt (.lst l) := .inl (isi_s (N := "list") rfl (by decide +kernel))
theorem noInt_tup {l : List D} : NoInt (.tup l) := .inl (isi_s (N := "tuple") rfl (by decide +kernel))
theorem whole_int {k : Int} : f_is_whole [.int k] = some (.ret (.bl true)) := by
  refine fn_go (by simp) ?_
  show Go m_is_whole [.int k] _
  unfold m_is_whole
  exact Go.ret (d := .bl true) (by simp) rfl
theorem whole_no {d : D} (h : NoInt d) : f_is_whole [d] = some (.ret (.bl false)) := by
  refine fn_go (by simp) ?_
  show Go m_is_whole [d] _
  unfold m_is_whole
  rcases h with h | ⟨b, rfl⟩
  · exact Go.ret (d := .bl false) (by simp [h]) rfl
  · exact Go.ret (d := .bl false) (by simp [isi_bl.1, isi_bl.2]) rfl
/-! ### names -/
/-! ### places -/
/-! ### sides -/
/-! ### the kinds of an exception -/
end VQ

/-! ## VQt -/
/-! odd things of a law -/
namespace VQ
open PySem PySem.Spec PyProof.Rows L2 VV VP
theorem eqInt {a b : Int} : dEq [.int a, .int b] = some (.bl (decide (a = b))) := eq_of_eqv Eqv.int Ok.int Ok.int (by decide)
end VQ

/-! ## VSh -/
/-! the class Sheet: what it holds, a step, a face -/
namespace VQ
open PySem PySem.Spec PyProof.Rows L2 VV VP
/-! ### evaluation of the statements of classes -/
section
variable {ρ : List D} {b : Sv} {Q : Out → Prop} {c f : Str} {ns : List Str} {ds : List D} {d e k : D} {i j : Nat} {s t : Ev}
end
/-! ### what a Sheet holds -/
section
variable {cs : List Cr}
end
end VQ

/-! ## VSi -/
/-! a face: the law's and the program's -/
namespace VQ
open PySem PySem.Spec PyProof.Rows L2 VV VP
section
variable {rs : List Int} {cs : List Cr} (g : NetC rs cs)
include g
end
end VQ

/-! ## VPa -/
/-! lists of steps, their rounds; an edge cut in two -/
namespace VQ
open PySem PySem.Spec PyProof.Rows L2 VV VP
section
variable {α : Type} [DecidableEq α]
structure FlS (L : List (α × α)) (φ : α → α) (C : List (List α)) : Prop where
  val : ∀ p ∈ L, φ p.1 = p.2
  cyc : Cyc (L.map (·.1)) φ C
end
end VQ

/-! ## VPb -/
/-! pieces of drawings: faces by steps, what hangs together; a vertex put on an edge -/
namespace VQ
open PySem PySem.Spec PyProof.Rows L2 VV VP
/-! ### what hangs together -/
def ConnG (gs : List (List Int)) : Prop := ∀ S : Int → Prop, (∃ g ∈ gs, ∃ n ∈ g, S n) → (∀ g ∈ gs, ∀ n ∈ g, ∀ m ∈ g, S n → S m) → ∀ g ∈ gs, ∀ n ∈ g, S n
def nm4 (x : Cr) : List Int := [x.a, x.b, x.c, x.d]
/-! ### pieces -/
structure Pc (P : List Cr) (φ : Int × Bool → Int × Bool) (C : List (List (Int × Bool))) : Prop where
  net : NetC [] P
  fl : FlS (onA P) φ C
  len : C.length = P.length + 2
  conn : ConnG (P.map nm4)
/-- a vertex with the in i and the out o -/
def lk (o i : Int) : List ((Int × Bool) × (Int × Bool)) := [((o, false), (i, false)), ((i, true), (o, true))]
/-- a piece with such a vertex -/
structure Sb (Q : List Cr) (o i : Int) (φ : Int × Bool → Int × Bool) (C : List (List (Int × Bool))) : Prop where
  net : Net [] (insC Q ++ [i]) (outsC Q ++ [o])
  fl : FlS (onA Q ++ lk o i) φ C
  len : C.length = Q.length + 2
  conn : ConnG ([o, i] :: Q.map nm4)
section
variable {P : List Cr} {φ : Int × Bool → Int × Bool} {C : List (List (Int × Bool))}
end
end VQ

/-! ## VPc -/
/-! two vertices, and a crossing in their place -/
namespace VQ
open PySem PySem.Spec PyProof.Rows L2 VV VP
abbrev Side := Int × Bool
structure Sb2 (Q : List Cr) (o i p j : Int) (a b : Side) (φ : Side → Side) (C : List (List Side)) : Prop where
  net : Net [] (insC Q ++ [i, j]) (outsC Q ++ [o, p])
  fl : FlS (onA Q ++ (lk o i ++ lk p j)) φ C
  len : (C.length = Q.length + 2 ∧ Same C a b) ∨ (C.length = Q.length + 4 ∧ ¬ Same C a b)
  conn : ConnG ([o, i, p, j] :: Q.map nm4)
section
variable {Q : List Cr} {o i : Int} {φ : Side → Side} {C : List (List Side)}
end
/-! ### a letter: a crossing in the place of the two vertices -/
end VQ

/-! ## VPd -/
/-! closings are flat: blocks of columns -/
namespace VQ
open PySem PySem.Spec PyProof.Rows L2 VV VP
section
variable {α : Type} [DecidableEq α]
end
def gam (col : Int → Int) (z : Side) : Int := col z.1 - (if z.2 = true then 1 else 0)
/-- a block of columns from l on -/
def Blk (n : Nat) (here : List Int) (col : Int → Int) (l w : Nat) (P : List Cr) : Prop :=
  (P = [] ∧ w = 1 ∧ here[l]? = some (l : Int)) ∨ (1 ≤ w ∧ ∃ φ C, Pc P φ C ∧ (∀ k : Nat, l ≤ k → k < l + w → (k : Int) ∈ insC P) ∧ (∀ k : Nat, l ≤ k → k + 1 < l + w → Same C ((k : Int), false) ((k : Int) + 1, true)) ∧ (∀ z ∈ insC P, z < n → (l : Int) ≤ z ∧ z < l + w) ∧ ∀ r ∈ onA P, gam col r.1 = gam col r.2)
theorem Blk.pos {n : Nat} {here : List Int} {col : Int → Int} {l w : Nat} {P : List Cr} (h : Blk n here col l w P) : 1 ≤ w := by
  rcases h with ⟨_, h, _⟩ | ⟨h, _⟩ <;> omega
end VQ

/-! ## VPe -/
/-! closings are flat: a letter more -/
namespace VQ
open PySem PySem.Spec PyProof.Rows L2 VV VP
section
variable {n a : Nat} {p q : Int} {col : Int → Int} {here here' : List Int} {x : Cr}
end
end VQ

/-! ## VPf -/
/-! closings are flat -/
namespace VQ
open PySem PySem.Spec PyProof.Rows L2 VV VP
end VQ

/-! ## VPg -/
/-! curls and pokes are flat: rounds -/
namespace VQ
open PySem PySem.Spec PyProof.Rows L2 VV VP
section
variable {α : Type} [DecidableEq α]
end
end VQ

/-! ## VPh -/
/-! curls and pokes are flat: pieces -/
namespace VQ
open PySem PySem.Spec PyProof.Rows L2 VV VP
section
variable {α : Type} [DecidableEq α] {K : List α} {φ : α → α} {C : List (List α)}
end
section
variable {Q : List Cr} {o i : Int} {φ : Side → Side} {C : List (List Side)}
end
end VQ

/-! ## VPi -/
/-! pokes are flat: pieces -/
namespace VQ
open PySem PySem.Spec PyProof.Rows L2 VV VP
end VQ

/-! ## VPj -/
/-! flat drawings: a curl, a poke, other names, another order -/
namespace VQ
open PySem PySem.Spec PyProof.Rows L2 VV VP
section
variable {rs : List Int} {cs P R : List Cr}
/-! ### pokes -/
end
end VQ

/-! ## VPk -/
/-! pieces of a drawing: what hangs together; flat is told piece by piece -/
namespace VQ
open PySem PySem.Spec PyProof.Rows L2 VV VP
/-! ### pieces found one crossing after the other -/
def Share (x : Cr) (P : List Cr) : Prop := ∃ y ∈ P, ∃ z ∈ nm4 y, z ∈ nm4 x
instance {x : Cr} {P : List Cr} : Decidable (Share x P) := inferInstanceAs (Decidable (∃ y ∈ P, ∃ z ∈ nm4 y, z ∈ nm4 x))
def Away (P Q : List Cr) : Prop := ∀ y ∈ P, ∀ z ∈ nm4 y, ∀ w ∈ Q, z ∉ nm4 w
structure PI (cs : List Cr) (Ps : List (List Cr)) : Prop where
  pm : Ps.flatten.Perm cs
  cn : ∀ P ∈ Ps, P ≠ [] ∧ ConnG (P.map nm4)
  aw : Ps.Pairwise Away
section
variable {rs : List Int} {cs : List Cr} {Ps : List (List Cr)} (g : NetC rs cs) (h : PI cs Ps)
include g h
end
end VQ

/-! ## VPl -/
/-! the walk through is_drawing: faces, pieces -/
namespace VQ
open PySem PySem.Spec PyProof.Rows L2 VV VP
/-! ### loops that may end with an answer; walks over an attribute's keys -/
section
variable {t : Tv} {b : Sv} {ρ : List D} {Q : Out → Prop}
end
section
variable {α : Type} [DecidableEq α] {x : α → D} {key : α → NestedKey}
end
/-! ### faces -/
section
variable {rs : List Int} {cs : List Cr} (g : NetC rs cs)
include g
end
end VQ

/-! ## VPm -/
/-! the walk through is_drawing: pieces, flat -/
namespace VQ
open PySem PySem.Spec PyProof.Rows L2 VV VP
/-! ### truths in lists -/
theorem boolsOf_map {α : Type} (p : α → Bool) : ∀ l : List α, boolsOf (l.map fun z => .bl (p z)) = some (l.map p)
  | [] => rfl
  | a :: r => by
    show (boolsOf (r.map fun z => .bl (p z))).map _ = _
    rw [boolsOf_map p r]
    rfl
theorem all_bl {α : Type} {p : α → Bool} {l : List α} : dAll [.lst (l.map fun z => .bl (p z))] = some (.bl (l.all p)) := by
  have : dAll [.lst (l.map fun z => .bl (p z))] = (boolsOf (l.map fun z => .bl (p z))).bind fun b => some (.bl (b.all id)) := rfl
  rw [this, boolsOf_map]
  simp [List.all_map]
/-! ### pieces by numbers -/
section
variable {cs : List Cr}
end
end VQ

/-! ## K01a -/
/-! both looks at a thing -/
namespace K01
open PySem PySem.Spec PyProof.Rows L2 VV
open VP
open VQ
def Pd : D → Prop
  | .non => True | .bl _ => True | .int _ => True | .str _ => True | .tup _ => True | .lst _ => True
  | _ => False
def isW : D → Bool
  | .int _ => true
  | _ => false
theorem isW_int {d : D} (h : isW d = true) : ∃ z, d = .int z := by
  cases d with
  | int z => exact ⟨z, rfl⟩
  | _ => cases h
theorem whole_pd {d : D} (h : Pd d) : f_is_whole [d] = some (.ret (.bl (isW d))) := by
  cases d with
  | non => exact whole_no noInt_non
  | bl b => exact whole_no (.inr ⟨b, rfl⟩)
  | int z => exact whole_int
  | str s => exact whole_no noInt_str
  | tup l => exact whole_no noInt_tup
  | lst l => exact whole_no noInt_lst
  | _ => exact h.elim
theorem lwhole_pd {d : D} (h : Pd d) : f__law_whole [d] = some (.ret (.bl (isW d))) := whole_pd h
theorem isi_tupN {d : D} (h : Pd d) (hn : ∀ l, d ≠ .tup l) : dIsi "tuple" [d] = some (.bl false) := by
  cases d with
  | non => exact isi_s (N := "NoneType") rfl (by decide +kernel)
  | bl b => exact isi_s (N := "bool") rfl (by decide +kernel)
  | int z => exact isi_s (N := "int") rfl (by decide +kernel)
  | str s => exact isi_s (N := "str") rfl (by decide +kernel)
  | tup l => exact absurd rfl (hn l)
  | lst l => exact isi_s (N := "list") rfl (by decide +kernel)
  | _ => exact h.elim
theorem isi_tupY {l : List D} : dIsi "tuple" [.tup l] = some (.bl true) := isi_s (N := "tuple") rfl (by decide +kernel)
theorem isi_lst {d : D} (h : Pd d) : dIsi "list" [d] = some (.bl d.isLst) := by
  cases d with
  | non => exact isi_s (N := "NoneType") (r := false) rfl (by decide +kernel)
  | bl b => exact isi_s (N := "bool") (r := false) rfl (by decide +kernel)
  | int z => exact isi_s (N := "int") (r := false) rfl (by decide +kernel)
  | str s => exact isi_s (N := "str") (r := false) rfl (by decide +kernel)
  | tup l => exact isi_s (N := "tuple") (r := false) rfl (by decide +kernel)
  | lst l => exact isi_s (N := "list") (r := true) rfl (by decide +kernel)
  | _ => exact h.elim
def sizeW : D → Bool
  | .int z => decide (0 ≤ z)
  | _ => false
theorem size_pd {d : D} (h : Pd d) : f_is_size [d] = some (.ret (.bl (sizeW d))) := by
  refine fn_go (by simp) ?_
  show Go m_is_size [d] _
  unfold m_is_size
  have hw := whole_pd h
  by_cases hi : isW d = true
  · obtain ⟨z, rfl⟩ := isW_int hi
    have g : dGe [.int z, .int 0] = some (.bl (decide (0 ≤ z))) := rfl
    refine Go.ret (d := .bl (sizeW (.int z))) ?_ rfl
    rw [vAnd_s]
    simp [hw, hi, g]
    rfl
  · have hi : isW d = false := by simpa using hi
    have hs : sizeW d = false := by
      cases d with
      | int z => cases hi
      | _ => rfl
    refine Go.ret (d := .bl (sizeW d)) ?_ rfl
    rw [hs, vAnd_s]
    simp [hw, hi]
def rowW (w : Int) : D → Bool
  | .lst l => decide ((l.length : Int) = w) && l.all isW
  | _ => false
theorem rowW_no {w : Int} {d : D} (h : d.isLst = false) : rowW w d = false := by
  cases d with
  | lst l => cases h
  | _ => rfl
theorem isLst_ex {d : D} (h : d.isLst = true) : ∃ l, d = .lst l := by
  cases d with
  | lst l => exact ⟨l, rfl⟩
  | _ => cases h
/-- what may stand in the place of a row -/
def Row (d : D) : Prop := Pd d ∧ ∀ l, d = .lst l → ∀ e ∈ l, Pd e
theorem row_pd {d : D} (h : Row d) (w : Int) : f_is_row [d, .int w] = some (.ret (.bl (rowW w d))) := by
  refine fn_go (by simp) ?_
  show Go m_is_row [d, .int w, .non] _
  unfold m_is_row
  have il := isi_lst h.1
  cases hl : d.isLst with
  | false =>
    rw [hl] at il
    refine Go.ret (d := .bl (rowW w d)) ?_ rfl
    rw [rowW_no hl, vAnd_s]
    simp [il]
  | true =>
    rw [hl] at il
    obtain ⟨l, rfl⟩ := isLst_ex hl
    have hk := h.2 l rfl
    have e1 : eLc (iLst (eVar 0)) (gN 2) cYes m_is_row_e1 [.lst l, .int w, .non] = some (.lst (l.map fun z => .bl (isW z))) := by
      rw [eLc_s]
      have : iLst (eVar 0) [.lst l, .int w, .non] = some (l.map id) := by simp
      rw [this]
      simp only [ob_some]
      rw [lcL_map id (fun z => .bl (isW z)) l fun z hz => ⟨[.lst l, .int w, z], rfl, rfl, by unfold m_is_row_e1; simp [whole_pd (hk z hz)]⟩]
      rfl
    have e2 := all_bl (p := isW) (l := l)
    have ln : dLen [.lst l] = some (.int (l.length : Nat)) := rfl
    have eq : dEq [.int (l.length : Nat), .int w] = some (.bl (decide ((l.length : Int) = w))) := eqInt
    refine Go.ret (d := .bl (rowW w (.lst l))) ?_ rfl
    show _ = some (D.bl (decide ((l.length : Int) = w) && l.all isW))
    rw [vAnd_s, vAnd_s, eP_s, eP_s, eP_s]
    simp only [aCons_s, aNil_s, e1]
    by_cases hc : (l.length : Int) = w
    · simp [il, ln, eq, hc, e2]
    · simp [il, ln, eq, hc]
/-- what is asked -/
def tabW : D → Bool
  | .tup [.int h, .int w, .lst r] => decide (0 ≤ h) && (decide (0 ≤ w) && (decide ((r.length : Int) = h) && r.all (rowW w)))
  | _ => false
def Tg (d : D) : Prop := Pd d ∧ ∀ a b c, d = .tup [a, b, c] → Pd a ∧ Pd b ∧ Pd c ∧ ∀ r, c = .lst r → ∀ e ∈ r, Row e
theorem len3 {l : List D} : dNe [.int (l.length : Nat), .int 3] = some (.bl (decide (l.length ≠ 3))) := by
  have h := VQ.ne_int (a := (l.length : Int)) (b := 3)
  rw [h]
  congr 2
  rw [Bool.eq_iff_iff, decide_eq_true_eq, decide_eq_true_eq]
  omega
theorem tabW_len {l : List D} (h : l.length ≠ 3) : tabW (.tup l) = false := by
  unfold tabW
  split
  · rename_i e
    cases e
    exact absurd rfl h
  · rfl
theorem tabW_tup {d : D} (h : ∀ l, d ≠ .tup l) : tabW d = false := by
  unfold tabW
  split
  · exact absurd rfl (h _)
  · rfl
theorem tabW_sz {a b c : D} (h : ¬ (sizeW a = true ∧ sizeW b = true)) : tabW (.tup [a, b, c]) = false := by
  unfold tabW
  split
  · rename_i e
    cases e
    rw [Bool.eq_false_iff]
    intro z
    simp only [Bool.and_eq_true] at z
    exact h ⟨z.1, z.2.1⟩
  · rfl
theorem table_pd {d : D} (h : Tg d) : f_is_table [d] = some (.ret (.bl (tabW d))) := by
  refine fn_go (by simp) ?_
  show Go m_is_table [d, .non, .non, .non, .non] _
  unfold m_is_table
  by_cases ht : ∃ l, d = .tup l
  · obtain ⟨l, rfl⟩ := ht
    have ln : dLen [.tup l] = some (.int (l.length : Nat)) := rfl
    by_cases h3 : l.length = 3
    · match l, h3, h, ln with
      | [a, b, c], h3, h, ln =>
        obtain ⟨pa, pb, pc, hr⟩ := h.2 a b c rfl
        have sa := size_pd pa
        have sb := size_pd pb
        have i0 : dIdx [.tup [a, b, c], .int 0] = some a := rfl
        have i1 : dIdx [.tup [a, b, c], .int 1] = some b := rfl
        have l3 := len3 (l := [a, b, c])
        by_cases hs : sizeW a = true ∧ sizeW b = true
        · refine Go.no (by simp [isi_tupY, ln, VQ.ne_int, i0, i1, sa, sb, hs.1, hs.2]) ?_
          unfold m_is_table_1
          refine Go.asg (d := .tup [a, b, c]) (by simp) (ρ' := [.tup [a, b, c], a, b, c, .non]) (by
            obtain ⟨hA, hB⟩ := hs
            cases a <;> first | cases hA | skip
            cases b <;> first | cases hB | skip
            simp) ?_
          unfold m_is_table_2
          have il := isi_lst pc
          cases hl : c.isLst with
          | false =>
            rw [hl] at il
            have ef : tabW (.tup [a, b, c]) = false := by
              unfold tabW
              split
              · rename_i e; cases e; cases hl
              · rfl
            refine Go.ret (d := .bl false) ?_ (by rw [ef]; rfl)
            rw [vAnd_s]
            simp [il]
          | true =>
            rw [hl] at il
            obtain ⟨r, rfl⟩ := isLst_ex hl
            obtain ⟨hA, hB⟩ := hs
            cases a with
            | int z =>
              cases b with
              | int w =>
                have e1 : eLc (iLst (eVar 3)) (gN 4) cYes m_is_table_e1 [.tup [.int z, .int w, .lst r], .int z, .int w, .lst r, .non] = some (.lst (r.map fun y => .bl (rowW w y))) := by
                  rw [eLc_s]
                  have : iLst (eVar 3) [.tup [.int z, .int w, .lst r], .int z, .int w, .lst r, .non] = some (r.map id) := by simp
                  rw [this]
                  simp only [ob_some]
                  rw [lcL_map id (fun y => .bl (rowW w y)) r fun y hy => ⟨[.tup [.int z, .int w, .lst r], .int z, .int w, .lst r, y], rfl, rfl, by unfold m_is_table_e1; simp [row_pd (hr r rfl y hy)]⟩]
                  rfl
                have e2 := all_bl (p := rowW w) (l := r)
                have lr : dLen [.lst r] = some (.int (r.length : Nat)) := rfl
                have eq : dEq [.int (r.length : Nat), .int z] = some (.bl (decide ((r.length : Int) = z))) := eqInt
                have hA' : 0 ≤ z := by simpa [sizeW] using hA
                have hB' : 0 ≤ w := by simpa [sizeW] using hB
                have ef : tabW (.tup [.int z, .int w, .lst r]) = (decide ((r.length : Int) = z) && r.all (rowW w)) := by
                  show (decide (0 ≤ z) && (decide (0 ≤ w) && (decide ((r.length : Int) = z) && r.all (rowW w)))) = _
                  rw [decide_eq_true hA', decide_eq_true hB']
                  rfl
                refine Go.ret (d := .bl (decide ((r.length : Int) = z) && r.all (rowW w))) ?_ (by rw [ef]; rfl)
                rw [vAnd_s, vAnd_s, eP_s, eP_s, eP_s]
                simp only [aCons_s, aNil_s, e1]
                by_cases hc : (r.length : Int) = z
                · simp [il, lr, eq, hc, e2]
                · simp [il, lr, eq, hc]
              | _ => cases hB
            | _ => cases hA
        · rw [tabW_sz hs]
          refine Go.yes ?_ (Go.ret (d := .bl false) (by simp) rfl)
          by_cases hA : sizeW a = true
          · have hB : sizeW b = false := by simpa using fun z => hs ⟨hA, z⟩
            simp [isi_tupY, ln, VQ.ne_int, i0, i1, sa, sb, hA, hB]
          · have hA : sizeW a = false := by simpa using hA
            simp [isi_tupY, ln, VQ.ne_int, i0, i1, sa, sb, hA]
    · rw [tabW_len h3]
      have h3' : ¬ ((l.length : Int) = 3) := by omega
      exact Go.yes (by simp [isi_tupY, ln, VQ.ne_int, h3']) (Go.ret (d := .bl false) (by simp) rfl)
  · have ht' : ∀ l, d ≠ .tup l := fun l e => ht ⟨l, e⟩
    rw [tabW_tup ht']
    exact Go.yes (by simp [isi_tupN h.1 ht']) (Go.ret (d := .bl false) (by simp) rfl)
end K01

/-! ## K01b -/
/-! the law's own look -/
namespace K01
open PySem PySem.Spec PyProof.Rows L2 VV
open VP
open VQ
theorem first_no {p : D → Bool} : ∀ {l : List D}, l.all p = false → ∃ pre a post, l = pre ++ a :: post ∧ (∀ x ∈ pre, p x = true) ∧ p a = false
  | [], h => by simp at h
  | d :: r, h => by
    cases hd : p d with
    | false => exact ⟨[], d, r, rfl, by simp, hd⟩
    | true =>
      rw [List.all_cons, hd, Bool.true_and] at h
      obtain ⟨pre, a, post, rfl, h1, h2⟩ := first_no h
      refine ⟨d :: pre, a, post, rfl, fun x hx => ?_, h2⟩
      rcases List.mem_cons.mp hx with rfl | hx
      · exact hd
      · exact h1 x hx
theorem go_all {it : List D → Option (List D)} {t : Tv} {b : Sv} {ρ : List D} {Q : Out → Prop} (p : D → Bool) (l : List D) (R : List D → Prop) (hit : it ρ = some l) (h0 : R ρ)
    (k : ∀ d ∈ l, ∀ ρ, R ρ → ∃ ρ1, t d ρ = some ρ1 ∧ (p d = true → Go b ρ1 fun o => ∃ ρ2, (o = .nx ρ2 ∨ o = .ct ρ2) ∧ R ρ2) ∧ (p d = false → Go b ρ1 fun o => o = .rt (.bl false)))
    (yes : l.all p = true → ∀ ρ', R ρ' → Q (.nx ρ')) (no : l.all p = false → Q (.rt (.bl false))) : Go (sFor it t b) ρ Q := by
  cases ha : l.all p with
  | true =>
    refine go_for (id : D → D) l (fun _ => R) (by simpa using hit) h0 (fun i a ρ hi hR => ?_) (fun ρ' hR => yes ha ρ' hR)
    have hm := List.mem_of_getElem? hi
    obtain ⟨ρ1, e, h1, _⟩ := k a hm ρ hR
    exact ⟨ρ1, e, h1 (List.all_eq_true.mp ha a hm)⟩
  | false =>
    obtain ⟨pre, a, post, rfl, h1, h2⟩ := first_no ha
    refine go_for_rt (id : D → D) pre a post (fun _ => R) (by simpa using hit) h0 (fun i c ρ hi hR => ?_) (fun ρ' hR => ?_)
    · have hm := List.mem_of_getElem? hi
      obtain ⟨ρ1, e, h3, _⟩ := k c (List.mem_append_left _ hm) ρ hR
      exact ⟨ρ1, e, h3 (h1 c hm)⟩
    · obtain ⟨ρ1, e, _, h4⟩ := k a (List.mem_append_right _ List.mem_cons_self) ρ' hR
      refine ⟨ρ1, e, (h4 h2).mono fun o ho => ?_⟩
      subst ho
      exact ⟨⟨_, rfl⟩, no ha⟩
theorem ltable_pd {d : D} (h : Tg d) : f__law_is_table [d] = some (.ret (.bl (tabW d))) := by
  refine fn_go (by simp) ?_
  show Go m__law_is_table [d, .non, .non] _
  unfold m__law_is_table
  by_cases ht : ∃ l, d = .tup l
  · obtain ⟨l, rfl⟩ := ht
    have ln : dLen [.tup l] = some (.int (l.length : Nat)) := rfl
    by_cases h3 : l.length = 3
    · match l, h3, h, ln with
      | [a, b, c], h3, h, ln =>
        obtain ⟨pa, pb, pc, hr⟩ := h.2 a b c rfl
        have sa := lwhole_pd pa
        have sb := lwhole_pd pb
        have i0 : dIdx [.tup [a, b, c], .int 0] = some a := rfl
        have i1 : dIdx [.tup [a, b, c], .int 1] = some b := rfl
        have i2 : dIdx [.tup [a, b, c], .int 2] = some c := rfl
        by_cases hs : isW a = true ∧ isW b = true
        · refine Go.no (by simp [isi_tupY, ln, VQ.ne_int, i0, i1, sa, sb, hs.1, hs.2]) ?_
          obtain ⟨z, rfl⟩ := isW_int hs.1
          obtain ⟨w, rfl⟩ := isW_int hs.2
          unfold m__law_is_table_1
          have il := isi_lst pc
          cases hl : c.isLst with
          | false =>
            rw [hl] at il
            have ef : tabW (.tup [.int z, .int w, c]) = false := by
              unfold tabW
              split
              · rename_i e; cases e; cases hl
              · rfl
            rw [ef]
            exact Go.yes (by simp [i2, il]) (Go.ret (d := .bl false) (by simp) rfl)
          | true =>
            rw [hl] at il
            obtain ⟨r, rfl⟩ := isLst_ex hl
            have lr : dLen [.lst r] = some (.int (r.length : Nat)) := rfl
            have nq : dNe [.int (r.length : Nat), .int z] = some (.bl (decide ((r.length : Int) ≠ z))) := VQ.ne_int
            have lt : dLt [.int w, .int 0] = some (.bl (decide (w < 0))) := rfl
            by_cases hc : (r.length : Int) = z ∧ 0 ≤ w
            · have hw : ¬ w < 0 := by omega
              have hc1 := hc.1
              refine Go.no (by simp [i0, i1, i2, il, lr, nq, lt, hc1, hw]) ?_
              have hz : 0 ≤ z := by omega
              have ef : tabW (.tup [.int z, .int w, .lst r]) = r.all (rowW w) := by
                show (decide (0 ≤ z) && (decide (0 ≤ w) && (decide ((r.length : Int) = z) && r.all (rowW w)))) = _
                rw [decide_eq_true hz, decide_eq_true hc.2, decide_eq_true hc.1]
                rfl
              rw [ef]
              unfold m__law_is_table_2
              rw [go_seq]
              refine go_all (rowW w) r (fun ρ => ∃ x y, ρ = [.tup [.int z, .int w, .lst r], x, y]) (by simp [i2]) ⟨_, _, rfl⟩ (fun e he ρ hR => ?_) (fun ha ρ' hR => ?_) (fun ha => ?_)
              · obtain ⟨x, y, rfl⟩ := hR
                refine ⟨[.tup [.int z, .int w, .lst r], e, y], by simp, ?_⟩
                obtain ⟨pe, ke⟩ := hr r rfl e he
                have ile := isi_lst pe
                cases hle : e.isLst with
                | false =>
                  rw [hle] at ile
                  rw [rowW_no hle]
                  refine ⟨fun q => Bool.noConfusion q, fun _ => ?_⟩
                  unfold m__law_is_table_b1
                  exact Go.yes (by simp [ile]) (Go.ret (d := .bl false) (by simp) rfl)
                | true =>
                  rw [hle] at ile
                  obtain ⟨q, rfl⟩ := isLst_ex hle
                  have lq : dLen [.lst q] = some (.int (q.length : Nat)) := rfl
                  have nw : dNe [.int (q.length : Nat), .int w] = some (.bl (decide ((q.length : Int) ≠ w))) := VQ.ne_int
                  by_cases hq : (q.length : Int) = w
                  · have er : rowW w (.lst q) = q.all isW := by
                      show (decide ((q.length : Int) = w) && q.all isW) = _
                      rw [decide_eq_true hq]; rfl
                    rw [er]
                    have inner : Go m__law_is_table_b1 [.tup [.int z, .int w, .lst r], .lst q, y] fun o => (q.all isW = true → ∃ ρ2, (o = .nx ρ2 ∨ o = .ct ρ2) ∧ ∃ x y, ρ2 = [.tup [.int z, .int w, .lst r], x, y]) ∧ (q.all isW = false → o = .rt (.bl false)) := by
                      unfold m__law_is_table_b1
                      refine Go.no (by simp [ile, lq, i1, nw, hq]) ?_
                      unfold m__law_is_table_b1_1
                      refine go_all isW q (fun ρ => ∃ y, ρ = [.tup [.int z, .int w, .lst r], .lst q, y]) (by simp) ⟨_, rfl⟩ (fun u hu ρ hR => ?_) (fun ha ρ' hR => ?_) (fun ha => ?_)
                      · obtain ⟨y, rfl⟩ := hR
                        refine ⟨[.tup [.int z, .int w, .lst r], .lst q, u], by simp, ⟨fun hy => ?_, fun hn => ?_⟩⟩
                        · unfold m__law_is_table_b2
                          rw [go_f (by simp [lwhole_pd (ke q rfl u hu), hy]), go_nil]
                          exact ⟨_, .inl rfl, _, rfl⟩
                        · unfold m__law_is_table_b2
                          refine (go_t (by simp [lwhole_pd (ke q rfl u hu), hn])).mpr ?_
                          exact Go.ret (d := .bl false) (by simp) rfl
                      · obtain ⟨y, rfl⟩ := hR
                        exact ⟨fun _ => ⟨_, .inl rfl, _, _, rfl⟩, fun hf => by rw [ha] at hf; cases hf⟩
                      · exact ⟨fun hy => (by rw [ha] at hy; cases hy), fun _ => rfl⟩
                    exact ⟨fun hy => inner.mono fun o ho => ho.1 hy, fun hn => inner.mono fun o ho => ho.2 hn⟩
                  · have er : rowW w (.lst q) = false := by
                      show (decide ((q.length : Int) = w) && q.all isW) = _
                      rw [decide_eq_false hq]; rfl
                    rw [er]
                    refine ⟨fun q => Bool.noConfusion q, fun _ => ?_⟩
                    unfold m__law_is_table_b1
                    exact Go.yes (by simp [ile, lq, i1, nw, hq]) (Go.ret (d := .bl false) (by simp) rfl)
              · rw [ha]
                obtain ⟨x, y, rfl⟩ := hR
                exact Go.ret (d := .bl true) (by simp) rfl
              · rw [ha]
                rfl
            · have ef : tabW (.tup [.int z, .int w, .lst r]) = false := by
                show (decide (0 ≤ z) && (decide (0 ≤ w) && (decide ((r.length : Int) = z) && r.all (rowW w)))) = _
                by_cases h1 : (r.length : Int) = z
                · have : ¬ 0 ≤ w := fun q => hc ⟨h1, q⟩
                  rw [decide_eq_false this]; simp
                · rw [decide_eq_false h1]; simp
              rw [ef]
              refine Go.yes ?_ (Go.ret (d := .bl false) (by simp) rfl)
              by_cases h1 : (r.length : Int) = z
              · have hw : w < 0 := by have : ¬ 0 ≤ w := fun q => hc ⟨h1, q⟩; omega
                simp [i0, i1, i2, il, lr, nq, lt, h1, hw]
              · simp [i0, i1, i2, il, lr, nq, lt, h1]
        · have hz : ¬ (sizeW a = true ∧ sizeW b = true) := fun q => hs ⟨by
            cases a <;> first | rfl | exact absurd q.1 (by simp [sizeW]), by
            cases b <;> first | rfl | exact absurd q.2 (by simp [sizeW])⟩
          rw [tabW_sz hz]
          refine Go.yes ?_ (Go.ret (d := .bl false) (by simp) rfl)
          by_cases hA : isW a = true
          · have hB : isW b = false := by simpa using fun z => hs ⟨hA, z⟩
            simp [isi_tupY, ln, VQ.ne_int, i0, i1, sa, sb, hA, hB]
          · have hA : isW a = false := by simpa using hA
            simp [isi_tupY, ln, VQ.ne_int, i0, i1, sa, sb, hA]
    · rw [tabW_len h3]
      have h3' : ¬ ((l.length : Int) = 3) := by omega
      exact Go.yes (by simp [isi_tupY, ln, VQ.ne_int, h3']) (Go.ret (d := .bl false) (by simp) rfl)
  · have ht' : ∀ l, d ≠ .tup l := fun l e => ht ⟨l, e⟩
    rw [tabW_tup ht']
    exact Go.yes (by simp [isi_tupN h.1 ht']) (Go.ret (d := .bl false) (by simp) rfl)
end K01

/-! ## K01c -/
/-! the text of a thing -/
namespace K01
open PySem PySem.Spec PyProof.Rows L2 VV
open VP
open VQ
mutual
def thin : D → Bool
  | .non => true
  | .bl _ => true
  | .int i => decide (i.natAbs < 18446744073709551616)
  | .str s => decide (s.cps.size ≤ 64) && PyData.strOk s
  | .tup l => thinL l
  | .lst l => thinL l
  | _ => false
def thinL : List D → Bool
  | [] => true
  | d :: r => thin d && thinL r
end
mutual
def wt : D → Nat
  | .tup l => wtL l
  | .lst l => wtL l
  | _ => 65
def wtL : List D → Nat
  | [] => 0
  | d :: r => wt d + 1 + wtL r
end
mutual
def dpt : D → Nat
  | .tup l => dptL l + 1
  | .lst l => dptL l + 1
  | _ => 0
def dptL : List D → Nat
  | [] => 0
  | d :: r => max (dpt d) (dptL r)
end
def Shp (p : PyData) (w k : Nat) : Prop := p.canLay0 = true ∧ p.showable = true ∧ p.leavesShort 65 = true ∧ p.weight ≤ w ∧ p.depth = k
def ShpL (p : List PyData) (w k : Nat) : Prop := PyData.canLayAll0 p = true ∧ PyData.showableAll p = true ∧ PyData.leavesShortAll 65 p = true ∧ PyData.weightAll p ≤ w ∧ PyData.depthAll p = k
theorem shp_tup {p : List PyData} {w k : Nat} (h : ShpL p w k) : Shp (.tuple p) w (k + 1) := by
  obtain ⟨h1, h2, h3, h4, h5⟩ := h
  refine ⟨?_, ?_, ?_, ?_, ?_⟩
  · simpa only [PyData.canLay0] using h1
  · simpa only [PyData.showable] using h2
  · simpa only [PyData.leavesShort] using h3
  · simpa only [PyData.weight] using h4
  · simp only [PyData.depth, h5]
theorem shp_lst {p : List PyData} {w k : Nat} (h : ShpL p w k) : Shp (.list p) w (k + 1) := by
  obtain ⟨h1, h2, h3, h4, h5⟩ := h
  refine ⟨?_, ?_, ?_, ?_, ?_⟩
  · simpa only [PyData.canLay0] using h1
  · simpa only [PyData.showable] using h2
  · simpa only [PyData.leavesShort] using h3
  · simpa only [PyData.weight] using h4
  · simp only [PyData.depth, h5]
mutual
theorem thin_shp : ∀ d : D, thin d = true → Shp d.toP (wt d) (dpt d)
  | .non, _ => ⟨rfl, rfl, rfl, Nat.zero_le _, rfl⟩
  | .bl _, _ => ⟨rfl, rfl, rfl, Nat.zero_le _, rfl⟩
  | .int i, h => by
    have h : i.natAbs < 2 ^ 64 := by simpa [thin] using h
    have hl : i.natAbs.log2 < 64 := by
      by_cases h0 : i.natAbs = 0
      · rw [h0]; decide
      · exact (Nat.log2_lt h0).mpr h
    refine ⟨rfl, ?_, ?_, ?_, rfl⟩
    · simp only [D.toP, PyData.showable, decide_eq_true_eq]; omega
    · have e := int_text_length_le (a := i) (k := 64) (by decide) hl
      simp only [D.toP, PyData.leavesShort, decide_eq_true_eq, PyData.shown]
      refine decide_eq_true ?_
      show (Str.ofString (toString i)).length ≤ 65
      rw [PySem.ofString_length]
      exact e
    · show (if i == 0 then 0 else i.natAbs.log2 + 1) ≤ 65
      split <;> omega
  | .str s, h => by
    have h : s.cps.size ≤ 64 ∧ PyData.strOk s = true := by simpa [thin] using h
    refine ⟨?_, rfl, ?_, ?_, rfl⟩
    · simpa only [D.toP, PyData.canLay0] using h.2
    · have h2 := h.2
      unfold PyData.strOk at h2
      simp only [D.toP, PyData.leavesShort, List.all_eq_true, decide_eq_true_eq]
      intro c hc
      have := (Array.all_eq_true_iff_forall_mem.mp h2) c (by simpa using hc)
      have : c < 1114112 := by simpa using this
      omega
    · show s.cps.size ≤ 65
      omega
  | .tup l, h => by
    have h : thinL l = true := by simpa [thin] using h
    have := shp_tup (thin_shpL l h)
    simpa only [D.toP, wt, dpt] using this
  | .lst l, h => by
    have h : thinL l = true := by simpa [thin] using h
    have := shp_lst (thin_shpL l h)
    simpa only [D.toP, wt, dpt] using this
  | .scr _, h => by simp [thin] at h
  | .dic _ _ _, h => by simp [thin] at h
  | .obj _ _ _, h => by simp [thin] at h
  | .fn _, h => by simp [thin] at h
  | .kti _, h => by simp [thin] at h
  | .dix _ _, h => by simp [thin] at h
theorem thin_shpL : ∀ l : List D, thinL l = true → ShpL (D.toPL l) (wtL l) (dptL l)
  | [], _ => ⟨rfl, rfl, rfl, Nat.le_refl _, rfl⟩
  | d :: r, h => by
    have h : thin d = true ∧ thinL r = true := by simpa [thinL] using h
    obtain ⟨a1, a2, a3, a4, a5⟩ := thin_shp d h.1
    obtain ⟨b1, b2, b3, b4, b5⟩ := thin_shpL r h.2
    refine ⟨?_, ?_, ?_, ?_, ?_⟩
    · simp only [D.toPL, PyData.canLayAll0, a1, b1]; rfl
    · simp only [D.toPL, PyData.showableAll, a2, b2]; rfl
    · simp only [D.toPL, PyData.leavesShortAll, a3, b3]; rfl
    · simp only [D.toPL, PyData.weightAll, wtL]; omega
    · simp only [D.toPL, PyData.depthAll, dptL, a5, b5]
end
/-- a thing that the law looks at -/
def Good (d : D) : Prop := thin d = true ∧ dpt d ≤ 16 ∧ wt d ≤ 200000
theorem show_ok {d : D} (h : Good d) : dShow [d] = some (.str d.toP.shown) := by
  obtain ⟨a1, a2, a3, a4, a5⟩ := thin_shp d h.1
  have hz : d.toP.shown.length ≤ sizeLine := by
    have e := PyData.shown_le 65 (by decide) _ a3
    have h2 : d.toP.weight ≤ 200000 := Nat.le_trans a4 h.2.2
    have : (65 + 2) * d.toP.weight ≤ 67 * 200000 := Nat.mul_le_mul_left _ h2
    have hs : sizeLine = 16777216 := rfl
    omega
  unfold dShow
  have hk : d.showOk = true := by
    unfold D.showOk
    rw [a1, a2, decide_eq_true (by rw [a5]; exact h.2.1), decide_eq_true hz]
    rfl
  dsimp only
  rw [if_pos hk]
theorem pd_thin {d : D} (h : thin d = true) : Pd d := by
  cases d <;> first | trivial | (simp [thin] at h)
theorem thinL_mem : ∀ {l : List D}, thinL l = true → ∀ e ∈ l, thin e = true
  | d :: r, h, e, he => by
    have h : thin d = true ∧ thinL r = true := by simpa [thinL] using h
    rcases List.mem_cons.mp he with rfl | he
    · exact h.1
    · exact thinL_mem h.2 e he
theorem thin_lst {l : List D} (h : thin (.lst l) = true) : ∀ e ∈ l, thin e = true := thinL_mem (by simpa [thin] using h)
theorem thin_tup {l : List D} (h : thin (.tup l) = true) : ∀ e ∈ l, thin e = true := thinL_mem (by simpa [thin] using h)
theorem row_thin {d : D} (h : thin d = true) : Row d := ⟨pd_thin h, fun l e x hx => by subst e; exact pd_thin (thin_lst h x hx)⟩
theorem tg_good {d : D} (h : Good d) : Tg d := by
  refine ⟨pd_thin h.1, fun a b c e => ?_⟩
  subst e
  have k := thin_tup h.1
  have hc := k c (by simp)
  refine ⟨pd_thin (k a (by simp)), pd_thin (k b (by simp)), pd_thin hc, fun r e x hx => ?_⟩
  subst e
  exact row_thin (thin_lst hc x hx)
/-! to show that a thing is one -/
theorem thinL_of {l : List D} (h : ∀ e ∈ l, thin e = true) : thinL l = true := by
  induction l with
  | nil => rfl
  | cons d r ih => simp [thinL, h d (by simp), ih fun e he => h e (List.mem_cons_of_mem _ he)]
theorem wtL_of {l : List D} {k : Nat} (h : ∀ e ∈ l, wt e ≤ k) : wtL l ≤ l.length * (k + 1) := by
  induction l with
  | nil => exact Nat.zero_le _
  | cons d r ih =>
    have h1 := h d (by simp)
    have h2 := ih fun e he => h e (List.mem_cons_of_mem _ he)
    rw [wtL, List.length_cons, Nat.succ_mul]
    omega
theorem dptL_of {l : List D} {k : Nat} (h : ∀ e ∈ l, dpt e ≤ k) : dptL l ≤ k := by
  induction l with
  | nil => exact Nat.zero_le _
  | cons d r ih =>
    have h1 := h d (by simp)
    have h2 := ih fun e he => h e (List.mem_cons_of_mem _ he)
    rw [dptL]
    omega
end K01

/-! ## K01d -/
/-! odd things -/
namespace K01
open PySem PySem.Spec PyProof.Rows L2 VV
open VP
open VQ
def o0 : List D := [.non, .int 3, .str (PySem.Str.ofString "t"), .str (PySem.Str.ofString ""), .lst [], .tup [], .bl true, .tup [.int 1, .int 1, .lst [.lst [.int 1]]], .lst [.int 1, .int 1, .lst [.lst [.int 1]]], .tup [.int 1, .int 1], .tup [.int 1, .int 1, .lst [.lst [.int 1]], .int 0], .tup [.int 0, .int 0, .lst []]]
def o1 : List D := [.tup [.int 0, .int 5, .lst []]]
def o2 : List D := [.tup [.int 3, .int 0, .lst [.lst [], .lst [], .lst []]], .tup [.int 0, .int 0, .lst [.lst []]], .tup [.int 1, .int 0, .lst []], .tup [.int (-1), .int 1, .lst []], .tup [.int 0, .int (-1), .lst []], .tup [.bl true, .int 1, .lst [.lst [.int 1]]]]
def o3 : List D := [.tup [.int 1, .bl true, .lst [.lst [.int 1]]], .tup [.int 1, .int 1, .lst [.lst [.bl true]]], .tup [.int 1, .int 1, .lst [.tup [.int 1]]], .tup [.int 1, .int 1, .tup [.lst [.int 1]]], .tup [.int 2, .int 1, .lst [.lst [.int 1]]], .tup [.int 1, .int 2, .lst [.lst [.int 1]]]]
def o4 : List D := [.tup [.int 1, .int 1, .lst [.lst [.non]]], .tup [.int 1, .int 1, .lst [.lst [.str (PySem.Str.ofString "1")]]], .tup [.int 1, .int 1, .lst [.lst [.lst [.int 1]]]], .tup [.str (PySem.Str.ofString "1"), .int 1, .lst [.lst [.int 1]]], .tup [.int 1, .non, .lst [.lst [.int 1]]], .tup [.int 1, .int 1, .non]]
def o5 : List D := [.tup [.int 1, .int 1, .str (PySem.Str.ofString "1")], .tup [.int 1, .int 1, .int 1], .tup [.int 1, .int 1, .lst [.int 1]], .tup [.int 2, .int 2, .lst [.lst [.int 1, .int 2], .lst [.int 3]]], .tup [.int 0, .int 0, .tup []]]
def odds : List D := ((((o0 ++ o1) ++ o2) ++ o3) ++ o4) ++ o5
theorem cat_s {a b : List D} (h : a.length + b.length ≤ 1000000) : dCat [.lst a, .lst b] = some (.lst (a ++ b)) := if_pos h
theorem odds_good : odds.all (fun d => thin d && (decide (dpt d ≤ 16) && decide (wt d ≤ 200000))) = true := by decide +kernel
theorem odds_good' {d : D} (h : d ∈ odds) : Good d := by
  have := List.all_eq_true.mp odds_good d h
  simp only [Bool.and_eq_true, decide_eq_true_eq] at this
  exact ⟨this.1, this.2.1, this.2.2⟩
theorem odd_ok (k : Int) : ∃ d, f__law_odd [.int k] = some (.ret d) ∧ Good d := by
  refine fn_ex (by simp) ?_
  show Go m__law_odd [.int k, .non] _
  unfold m__law_odd
  refine Go.set (d := .lst o0) (by rfl) ?_
  unfold m__law_odd_1
  have c1 := cat_s (a := o0) (b := o1) (by decide)
  refine Go.set (d := .lst (o0 ++ o1)) (by rw [← c1]; rfl) ?_
  unfold m__law_odd_2
  have c2 := cat_s (a := o0 ++ o1) (b := o2) (by decide)
  refine Go.set (d := .lst ((o0 ++ o1) ++ o2)) (by rw [← c2]; rfl) ?_
  unfold m__law_odd_3
  have c3 := cat_s (a := (o0 ++ o1) ++ o2) (b := o3) (by decide)
  refine Go.set (d := .lst (((o0 ++ o1) ++ o2) ++ o3)) (by rw [← c3]; rfl) ?_
  unfold m__law_odd_4
  have c4 := cat_s (a := ((o0 ++ o1) ++ o2) ++ o3) (b := o4) (by decide)
  refine Go.set (d := .lst ((((o0 ++ o1) ++ o2) ++ o3) ++ o4)) (by rw [← c4]; rfl) ?_
  unfold m__law_odd_5
  have c5 := cat_s (a := (((o0 ++ o1) ++ o2) ++ o3) ++ o4) (b := o5) (by decide)
  obtain ⟨d, hd, ed⟩ := VQ.idx_modG id odds 36 k (by decide) (by decide)
  rw [List.map_id] at ed
  refine Go.ret (d := d) ?_ ⟨_, rfl, odds_good' hd⟩
  have m : dMod [.int k, .int 36] = some (.int (k % 36)) := dMod_s (by decide)
  have e5 : (eP dCat (aCons (eVar 1) (aCons (eLst (aCons (eTup (aCons (eC (.int 1)) (aCons (eC (.int 1)) (aCons (eC (.str (PySem.Str.ofString "1"))) aNil)))) (aCons (eTup (aCons (eC (.int 1)) (aCons (eC (.int 1)) (aCons (eC (.int 1)) aNil)))) (aCons (eTup (aCons (eC (.int 1)) (aCons (eC (.int 1)) (aCons (eLst (aCons (eC (.int 1)) aNil)) aNil)))) (aCons (eTup (aCons (eC (.int 2)) (aCons (eC (.int 2)) (aCons (eLst (aCons (eLst (aCons (eC (.int 1)) (aCons (eC (.int 2)) aNil))) (aCons (eLst (aCons (eC (.int 3)) aNil)) aNil))) aNil)))) (aCons (eTup (aCons (eC (.int 0)) (aCons (eC (.int 0)) (aCons (eTup aNil) aNil)))) aNil)))))) aNil))) [D.int k, .lst ((((o0 ++ o1) ++ o2) ++ o3) ++ o4)] = some (.lst odds) := by
    unfold odds
    rw [← c5]; rfl
  show eP dIdx (aCons _ _) [D.int k, .lst ((((o0 ++ o1) ++ o2) ++ o3) ++ o4)] = _
  rw [eP_s, aCons_s, e5]
  simp only [ob_some, aCons_s, aNil_s, eP_s, eVar_s, eC_s, List.getElem?_cons_zero, m]
  exact ed
end K01

/-! ## VLa -/
/-! what turning over tells (the program's own) -/
namespace VP
open PySem PySem.Spec PyProof.Rows L2 VV VP
theorem one_bits : D.tup [.int 1] = bitsD [1] := rfl
theorem dCh_s {f h : Int → Int → Bool} {a b c : Int} : dCh f h [.int a, .int b, .int c] = some (.bl (f a b && h b c)) := rfl
section
variable {rs : List Int} {cs : List Cr} {bs : List Int} (g : Good rs cs) (hl : rs.length + 4 * cs.length < 64) (hb : bs.length = cs.length) (hb01 : ∀ b ∈ bs, b = 0 ∨ b = 1)
include g hl hb hb01
end
end VP

/-! ## VLb -/
/-! the rows of marks behind a turning (the program's own) -/
namespace VP
open PySem PySem.Spec PyProof.Rows L2 VV VP
theorem sll_from {l : List Int} {p : Nat} : dSl (intsD l) (some (p : Int)) none = some (intsD (l.drop p)) := by
  unfold intsD
  rw [dSl_l]
  unfold cutG
  rw [HT.sIx_nat, HT.sIx_none, List.length_map, ← List.map_drop, List.take_of_length_le (by simp)]
  by_cases h : p ≤ l.length
  · rw [Nat.min_eq_left h]
  · rw [List.drop_eq_nil_of_le (by omega), List.drop_eq_nil_of_le (by omega)]
end VP

/-! ## K01e -/
/-! a table, spoiled -/
namespace K01
open PySem PySem.Spec PyProof.Rows L2 VV
open VP
open VQ
theorem asgU_go {ρ ρ' : List D} {ds : List D} {e : Ev} {ts : List D → List D → Option (List D)} {b : Sv} {Q : Out → Prop} (h : e ρ = some (.tup ds)) (hr : ds.all D.rooty = true) (h2 : ts ds ρ = some ρ') (k : Go b ρ' Q) : Go (sSeq (sAsgU ts e) b) ρ Q := by
  rw [go_seq]
  refine ⟨.nx ρ', ?_, k⟩
  unfold sAsgU
  rw [h]
  dsimp only
  rw [if_pos hr, h2]
  rfl
theorem tw {ρ : List D} {i : Nat} {w : Int} (h : ρ[i]? = some (.int w)) (k : Int) : tOf (eP dEq (aCons (eVar i) (aCons (eC (.int k)) aNil))) ρ = some (decide (w = k)) := by
  have v : eVar i ρ = some (.int w) := h
  simp only [tOf_s, eP_s, aCons_s, aNil_s, v, eC_s, ob_some, eqInt, asB_s]
theorem tl {ρ : List D} {i : Nat} {w : Int} (h : ρ[i]? = some (.int w)) (k : Int) : tOf (eP dLt (aCons (eVar i) (aCons (eC (.int k)) aNil))) ρ = some (decide (w < k)) := by
  have v : eVar i ρ = some (.int w) := h
  have l : dLt [.int w, .int k] = some (.bl (decide (w < k))) := rfl
  simp only [tOf_s, eP_s, aCons_s, aNil_s, v, eC_s, ob_some, l, asB_s]
theorem ixN_s {n k : Nat} (h : k < n) : ixN n (k : Int) = some k := by
  unfold ixN
  rw [if_pos (by omega), if_pos (by omega)]
  simp
theorem idx_s {l : List D} {k : Nat} {d : D} (h : l[k]? = some d) : dIdx [.lst l, .int k] = some d := by
  have hk := (List.getElem?_eq_some_iff.mp h).1
  rw [dIdx_l]
  unfold atI
  rw [ixN_s hk]
  simp [h]
theorem lput_s {l : List D} {k : Nat} {v : D} (h : k < l.length) : lPut (.lst l) (.int k) v = some (.lst (l.set k v)) := by
  show (ixN l.length (k : Int)).map _ = _
  rw [ixN_s h]
  rfl
/-- rows -/
def Rw (w : Nat) (e : D) : Prop := thin e = true ∧ dpt e ≤ 3 ∧ wt e ≤ (w + 1) * 67
theorem good_tab {a b c : D} {R : List D} {h w : Nat} (ha : thin a = true ∧ dpt a ≤ 3 ∧ wt a ≤ 65) (hb : thin b = true ∧ dpt b ≤ 3 ∧ wt b ≤ 65) (hc : c = .lst R ∨ c = .tup R) (hR : ∀ e ∈ R, Rw w e) (hl : R.length ≤ h + 1) (hz : (h + 1) * ((w + 2) * 70) ≤ 190000) : Good (.tup [a, b, c]) := by
  have t1 : thinL R = true := thinL_of fun e he => (hR e he).1
  have t2 : dptL R ≤ 3 := dptL_of fun e he => (hR e he).2.1
  have t3 : wtL R ≤ R.length * ((w + 1) * 67 + 1) := wtL_of fun e he => (hR e he).2.2
  have t4 : R.length * ((w + 1) * 67 + 1) ≤ (h + 1) * ((w + 2) * 70) := Nat.mul_le_mul hl (by omega)
  have c1 : thin c = true := by rcases hc with rfl | rfl <;> simpa [thin] using t1
  have c2 : dpt c ≤ 4 := by rcases hc with rfl | rfl <;> (simp only [dpt]; omega)
  have c3 : wt c ≤ 190000 := by rcases hc with rfl | rfl <;> (simp only [wt]; omega)
  refine ⟨?_, ?_, ?_⟩
  · simp [thin, thinL, ha.1, hb.1, c1]
  · simp only [dpt, dptL]
    have := ha.2.1
    have := hb.2.1
    omega
  · simp only [wt, wtL]
    have := ha.2.2
    have := hb.2.2
    omega
theorem thin_int {z : Int} (h : z.natAbs < 18446744073709551616) : thin (.int z) = true ∧ dpt (.int z) ≤ 3 ∧ wt (.int z) ≤ 65 := ⟨by simp [thin, h], Nat.zero_le _, Nat.le_refl _⟩
theorem ints_mem {zs : List Int} {e : D} (h : e ∈ zs.map D.int) : ∃ z ∈ zs, e = .int z := by
  obtain ⟨z, hz, rfl⟩ := List.mem_map.mp h
  exact ⟨z, hz, rfl⟩
def Sm (z : Int) : Prop := z.natAbs < 18446744073709551616
theorem rw_ints {zs : List Int} {w : Nat} (hl : zs.length ≤ w + 1) (hs : ∀ z ∈ zs, Sm z) : Rw w (intsD zs) := by
  have t1 : thinL (zs.map D.int) = true := thinL_of fun e he => by obtain ⟨z, hz, rfl⟩ := ints_mem he; exact (thin_int (hs z hz)).1
  have t2 : dptL (zs.map D.int) ≤ 0 := dptL_of fun e he => by obtain ⟨z, hz, rfl⟩ := ints_mem he; exact Nat.le_refl _
  have t3 : wtL (zs.map D.int) ≤ (zs.map D.int).length * (66 + 1) := wtL_of fun e he => by obtain ⟨z, hz, rfl⟩ := ints_mem he; exact (by decide : 65 ≤ 66)
  rw [List.length_map] at t3
  have t4 : zs.length * (66 + 1) ≤ (w + 1) * 67 := Nat.mul_le_mul_right _ hl
  refine ⟨?_, ?_, ?_⟩
  · unfold intsD; simpa [thin] using t1
  · unfold intsD; simp only [dpt]; omega
  · unfold intsD; simp only [wt]; omega
theorem rw_tup {zs : List Int} {w : Nat} (hl : zs.length ≤ w + 1) (hs : ∀ z ∈ zs, Sm z) : Rw w (.tup (zs.map D.int)) := by
  obtain ⟨h1, h2, h3⟩ := rw_ints hl hs
  unfold intsD at h1 h2 h3
  refine ⟨?_, ?_, ?_⟩
  · simpa [thin] using h1
  · simpa only [dpt] using h2
  · simpa only [wt] using h3
theorem rw_set {zs : List Int} {w u : Nat} {d : D} (hl : zs.length ≤ w + 1) (hs : ∀ z ∈ zs, Sm z) (hd : thin d = true ∧ dpt d ≤ 2 ∧ wt d ≤ 66) : Rw w (.lst ((zs.map D.int).set u d)) := by
  have mem : ∀ e ∈ (zs.map D.int).set u d, thin e = true ∧ dpt e ≤ 2 ∧ wt e ≤ 66 := fun e he => by
    rcases List.mem_or_eq_of_mem_set he with he | rfl
    · obtain ⟨z, hz, rfl⟩ := ints_mem he
      exact ⟨(thin_int (hs z hz)).1, Nat.zero_le _, (by decide : 65 ≤ 66)⟩
    · exact hd
  have t1 := thinL_of fun e he => (mem e he).1
  have t2 := dptL_of fun e he => (mem e he).2.1
  have t3 := wtL_of fun e he => (mem e he).2.2
  rw [List.length_set, List.length_map] at t3
  have t4 : zs.length * (66 + 1) ≤ (w + 1) * 67 := Nat.mul_le_mul_right _ hl
  refine ⟨?_, ?_, ?_⟩
  · simpa [thin] using t1
  · simp only [dpt]; omega
  · simp only [wt]; omega
def TZ (h w : Nat) (Z : List (List Int)) : D := .tup [.int h, .int w, .lst (Z.map intsD)]
theorem copy_ok {h w : Nat} {Z : List (List Int)} : f__law_copy [TZ h w Z] = some (.ret (TZ h w Z)) := by
  refine fn_go (by simp) ?_
  show Go m__law_copy [TZ h w Z, .non] _
  unfold m__law_copy
  have i0 : dIdx [TZ h w Z, .int 0] = some (.int h) := rfl
  have i1 : dIdx [TZ h w Z, .int 1] = some (.int w) := rfl
  have i2 : dIdx [TZ h w Z, .int 2] = some (.lst (Z.map intsD)) := rfl
  have e : eLc (iLst (eP dIdx (aCons (eVar 0) (aCons (eC (.int 2)) aNil)))) (gN 1) cYes m__law_copy_e1 [TZ h w Z, .non] = some (.lst (Z.map intsD)) := by
    rw [eLc_s]
    have : iLst (eP dIdx (aCons (eVar 0) (aCons (eC (.int 2)) aNil))) [TZ h w Z, .non] = some (Z.map intsD) := by simp [i2]
    rw [this]
    simp only [ob_some]
    rw [lcL_map intsD intsD Z fun z hz => ⟨[TZ h w Z, intsD z], rfl, rfl, by
      unfold m__law_copy_e1
      have l : dList [intsD z] = some (intsD z) := rfl
      have k : (intsD z).kidsFlat = true := by unfold intsD; simp only [D.kidsFlat]; exact flatL_int z
      simp [l, k, Option.filter_some]⟩]
    rfl
  refine Go.ret (d := TZ h w Z) ?_ rfl
  rw [eTup_s, aCons_s, aCons_s, aCons_s, e]
  simp [i0, i1, Option.filter_some, TZ]
end K01

/-! ## K01f -/
/-! a table, spoiled -/
namespace K01
open PySem PySem.Spec PyProof.Rows L2 VV
open VP
open VQ
theorem rws {w : Nat} {Z : List (List Int)} (hw : ∀ z ∈ Z, z.length = w ∧ ∀ x ∈ z, Sm x) : ∀ e ∈ Z.map intsD, Rw w e := fun e he => by
  obtain ⟨z, hz, rfl⟩ := List.mem_map.mp he
  exact rw_ints (by have := (hw z hz).1; omega) (hw z hz).2
theorem rws_set {w i : Nat} {Z : List (List Int)} {d : D} (hw : ∀ z ∈ Z, z.length = w ∧ ∀ x ∈ z, Sm x) (hd : Rw w d) : ∀ e ∈ (Z.map intsD).set i d, Rw w e := fun e he => by
  rcases List.mem_or_eq_of_mem_set he with he | rfl
  · exact rws hw e he
  · exact hd
def rowR (r0 r1 r2 r3 : Int) : D := .lst [.int r0, .int r1, .int r2, .int r3]
/-- the end of it -/
theorem end_ok {T W : D} {h w i : Nat} {v : Int} {R : List D} : Go m__law_spoiled_11 [T, W, .int h, .int w, .lst R, .int v, .int i] fun o => o = .rt (.tup [.int h, .int w, .lst R]) := by
  unfold m__law_spoiled_11
  exact Go.ret (d := .tup [.int h, .int w, .lst R]) (by simp) rfl
theorem end10 {T W : D} {h w i : Nat} {v : Int} {R : List D} (h8 : v ≠ 8) : Go m__law_spoiled_10 [T, W, .int h, .int w, .lst R, .int v, .int i] fun o => o = .rt (.tup [.int h, .int w, .lst R]) := by
  unfold m__law_spoiled_10
  refine Go.no ?_ end_ok
  rw [wAnd_s, tw (w := v) rfl 8, decide_eq_false h8]
  rfl
theorem end9 {T W : D} {h w i : Nat} {v : Int} {R : List D} (h7 : v ≠ 7) (h8 : v ≠ 8) : Go m__law_spoiled_9 [T, W, .int h, .int w, .lst R, .int v, .int i] fun o => o = .rt (.tup [.int h, .int w, .lst R]) := by
  unfold m__law_spoiled_9
  exact Go.no ((tw (w := v) rfl 7).trans (by simp [h7])) (end10 h8)
theorem end8 {T W : D} {h w i : Nat} {v : Int} {R : List D} (h6 : v ≠ 6) (h7 : v ≠ 7) (h8 : v ≠ 8) : Go m__law_spoiled_8 [T, W, .int h, .int w, .lst R, .int v, .int i] fun o => o = .rt (.tup [.int h, .int w, .lst R]) := by
  unfold m__law_spoiled_8
  exact Go.no ((tw (w := v) rfl 6).trans (by simp [h6])) (end9 h7 h8)
theorem putT_s {R : List D} {i j : Nat} {zs : List Int} {d : D} (hi : R[i]? = some (intsD zs)) (hj : j < zs.length) : putAtT (.lst R) (.int i) (.int j) d = some (.lst (R.set i (.lst ((zs.map D.int).set j d)))) := by
  have hk := (List.getElem?_eq_some_iff.mp hi).1
  show putRowT R i j d = _
  unfold putRowT
  rw [ixN_s hk, Option.bind_some, hi]
  unfold intsD
  dsimp only
  rw [if_pos (flatL_int zs), ixN_s (by rw [List.length_map]; exact hj)]
  rfl
theorem go_putT {i : Nat} {six sj se : Ev} {ρ : List D} {d k j dd z : D} {Q : Out → Prop} (h : se ρ = some d) (h1 : six ρ = some k) (h2 : sj ρ = some j) (h3 : ρ[i]? = some dd) (h4 : putAtT dd k j d = some z) (q : Q (.nx (ρ.set i z))) : Go (sPutAtT i six sj se) ρ Q :=
  ⟨.nx (ρ.set i z), by simp only [sPutAtT, h, h1, h2, h3, h4, Option.bind_eq_bind, Option.bind_some], q⟩
def d8 : List D := [.non, .bl true, .bl false, .str (PySem.Str.ofString "0"), .int 0, .int (-1), .lst [], .tup [.int 0]]
theorem d8_ok : d8.all (fun d => thin d && (decide (dpt d ≤ 2) && decide (wt d ≤ 66))) = true := by decide +kernel
theorem d8_mem {d : D} (h : d ∈ d8) : thin d = true ∧ dpt d ≤ 2 ∧ wt d ≤ 66 := by
  have := List.all_eq_true.mp d8_ok d h
  simpa only [Bool.and_eq_true, decide_eq_true_eq] using this
theorem spoiled_ok {h w : Nat} {Z : List (List Int)} (hZ : Z.length = h) (hw : ∀ z ∈ Z, z.length = w ∧ ∀ x ∈ z, Sm x) (hh : h ≤ 1000) (hw2 : w ≤ 1000) (hz : (h + 1) * ((w + 2) * 70) ≤ 190000) {r0 r1 r2 r3 : Int} (h2 : Sm r2) :
    ∃ d, f__law_spoiled [TZ h w Z, rowR r0 r1 r2 r3] = some (.ret d) ∧ Good d := by
  refine fn_ex (by simp) ?_
  show Go m__law_spoiled [TZ h w Z, rowR r0 r1 r2 r3, .non, .non, .non, .non, .non] _
  unfold m__law_spoiled
  refine asgU_go (ds := [.int h, .int w, .lst (Z.map intsD)]) (by simp [copy_ok]; rfl) (by rfl) (ρ' := [TZ h w Z, rowR r0 r1 r2 r3, .int h, .int w, .lst (Z.map intsD), .non, .non]) (by simp) ?_
  unfold m__law_spoiled_1
  have j0 : dIdx [rowR r0 r1 r2 r3, .int 0] = some (.int r0) := rfl
  have j1 : dIdx [rowR r0 r1 r2 r3, .int 1] = some (.int r1) := rfl
  have j2 : dIdx [rowR r0 r1 r2 r3, .int 2] = some (.int r2) := rfl
  have j3 : dIdx [rowR r0 r1 r2 r3, .int 3] = some (.int r3) := rfl
  have m9 : dMod [.int r0, .int 9] = some (.int (r0 % 9)) := dMod_s (by decide)
  refine Go.set (d := .int (r0 % 9)) (by simp [j0, m9, Option.filter_some]) ?_
  obtain ⟨v, hv⟩ : ∃ v, r0 % 9 = v := ⟨_, rfl⟩
  have v0 : 0 ≤ v := by rw [← hv]; exact Int.emod_nonneg _ (by decide)
  have v9 : v < 9 := by rw [← hv]; exact Int.emod_lt_of_pos _ (by decide)
  rw [hv]
  show Go _ [TZ h w Z, rowR r0 r1 r2 r3, .int h, .int w, .lst (Z.map intsD), .int v, .non] _
  have mul2 : dMul [.int 2, .int v] = some (.int (2 * v)) := dMul_s ((show Bn 2 2 by unfold Bn; decide).cmul (show Bn 4 v by unfold Bn; omega) (by decide))
  have R0 := rws hw
  have l0 : (Z.map intsD).length = h := by rw [List.length_map, hZ]
  unfold m__law_spoiled_2
  by_cases c1 : v < 2
  · refine Go.yes ((tl (w := v) rfl 2).trans (by simp [c1])) ?_
    unfold m__law_spoiled_c1
    have hs : dSub [.int ((h : Int) + 1), .int (2 * v)] = some (.int ((h : Int) + 1 - 2 * v)) := rfl
    refine Go.ret (d := .tup [.int ((h : Int) + 1 - 2 * v), .int w, .lst (Z.map intsD)]) (by simp [mul2, hs]) ⟨_, rfl, ?_⟩
    exact good_tab (thin_int (by omega)) (thin_int (by omega)) (.inl rfl) R0 (by omega) hz
  refine Go.no ((tl (w := v) rfl 2).trans (by simp [c1])) ?_
  unfold m__law_spoiled_3
  by_cases c2 : v < 4
  · refine Go.yes ((tl (w := v) rfl 4).trans (by simp [c2])) ?_
    unfold m__law_spoiled_c2
    have hs : dSub [.int ((w : Int) + 5), .int (2 * v)] = some (.int ((w : Int) + 5 - 2 * v)) := rfl
    refine Go.ret (d := .tup [.int h, .int ((w : Int) + 5 - 2 * v), .lst (Z.map intsD)]) (by simp [mul2, hs]) ⟨_, rfl, ?_⟩
    exact good_tab (thin_int (by omega)) (thin_int (by omega)) (.inl rfl) R0 (by omega) hz
  refine Go.no ((tl (w := v) rfl 4).trans (by simp [c2])) ?_
  unfold m__law_spoiled_4
  by_cases c3 : v = 4
  · refine Go.yes ((tw (w := v) rfl 4).trans (by simp [c3])) ?_
    unfold m__law_spoiled_c3
    have rp := rep_row w (by omega)
    have cc : dCat [.lst (Z.map intsD), .lst [rowD w fun _ => 0]] = some (.lst (Z.map intsD ++ [rowD w fun _ => 0])) := cat_s (by rw [l0]; simp; omega)
    refine Go.ret (d := .tup [.int ((h : Int) + 1), .int w, .lst (Z.map intsD ++ [rowD w fun _ => 0])]) ?_ ⟨_, rfl, ?_⟩
    · simp only [eTup_s, aCons_s, aNil_s, eP_s, eLst_s, eC_s, eVar_s, List.getElem?_cons_succ, List.getElem?_cons_zero, ob_some, rp, cc]
      simp
    · refine good_tab (thin_int (by omega)) (thin_int (by omega)) (.inl rfl) (fun e he => ?_) (by rw [List.length_append, l0]; simp) hz
      rcases List.mem_append.mp he with he | he
      · exact R0 e he
      · rw [List.mem_singleton.mp he]
        have : rowD w (fun _ => 0) = intsD ((List.range w).map fun _ => 0) := by unfold rowD intsD; rw [List.map_map]; rfl
        rw [this]
        refine rw_ints (by rw [List.length_map, List.length_range]; omega) fun z hz => ?_
        obtain ⟨_, _, rfl⟩ := List.mem_map.mp hz
        show (0 : Int).natAbs < _
        decide
  refine Go.no ((tw (w := v) rfl 4).trans (by simp [c3])) ?_
  unfold m__law_spoiled_5
  have en : dEq [.lst (Z.map intsD), .lst []] = some (.bl (decide (Z = []))) := eq_rows (L := Z) (M := [])
  by_cases c4 : Z = []
  · refine Go.yes (by
      simp only [tOf_s, eP_s, aCons_s, aNil_s, eVar_s, eLst_s, List.getElem?_cons_succ, List.getElem?_cons_zero, ob_some, en, asB_s]
      simp [c4]) ?_
    unfold m__law_spoiled_c4
    have tu : dTuple [.lst (Z.map intsD)] = some (.tup (Z.map intsD)) := rfl
    refine Go.ret (d := .tup [.int h, .int w, .tup (Z.map intsD)]) (by simp [tu]) ⟨_, rfl, ?_⟩
    exact good_tab (thin_int (by omega)) (thin_int (by omega)) (.inr rfl) R0 (by omega) hz
  refine Go.no (by simp [en, c4]) ?_
  have hpos : 0 < h := by rw [← hZ]; exact List.length_pos_iff.mpr c4
  unfold m__law_spoiled_6
  have mh : dMod [.int r1, .int h] = some (.int (r1 % h)) := dMod_s (by omega)
  obtain ⟨i, hi⟩ : ∃ i : Nat, (i : Int) = r1 % h := ⟨(r1 % h).toNat, Int.toNat_of_nonneg (Int.emod_nonneg _ (by omega))⟩
  have hil : i < h := by have := Int.emod_lt_of_pos r1 (b := (h : Int)) (by omega); omega
  refine Go.set (d := .int i) (by simp [j1, mh, Option.filter_some, hi]) ?_
  show Go _ [TZ h w Z, rowR r0 r1 r2 r3, .int h, .int w, .lst (Z.map intsD), .int v, .int i] _
  obtain ⟨z, hzi⟩ : ∃ z, Z[i]? = some z := ⟨Z[i], List.getElem?_eq_getElem (by omega)⟩
  have hzm := List.mem_of_getElem? hzi
  obtain ⟨zl, zs⟩ := hw z hzm
  have ri : (Z.map intsD)[i]? = some (intsD z) := by rw [List.getElem?_map, hzi]; rfl
  have ix : dIdx [.lst (Z.map intsD), .int i] = some (intsD z) := idx_s ri
  have pl : ∀ d, lPut (.lst (Z.map intsD)) (.int i) d = some (.lst ((Z.map intsD).set i d)) := fun d => lput_s (by rw [l0]; exact hil)
  have fin : ∀ d : D, Rw w d → Good (.tup [.int h, .int w, .lst ((Z.map intsD).set i d)]) := fun d hd =>
    good_tab (thin_int (by omega)) (thin_int (by omega)) (.inl rfl) (rws_set hw hd) (by rw [List.length_set, l0]; omega) hz
  unfold m__law_spoiled_7
  by_cases c5 : v = 5
  · subst c5
    refine Go.yes ((tw (w := (5 : Int)) rfl 5).trans (by simp)) ?_
    unfold m__law_spoiled_c5
    have cf : dCatF [intsD z, .lst [.int r2]] = some (intsD (z ++ [r2])) := catF_ints (r := [r2]) (by rw [zl]; simp; omega)
    refine Go.put1 (v := intsD (z ++ [r2])) (x := .int i) (y := .lst (Z.map intsD)) (z := .lst ((Z.map intsD).set i (intsD (z ++ [r2])))) ?_ rfl rfl (pl _) ?_
    · simp only [aCons_s, aNil_s, eP_s, eLst_s, eC_s, eChk_s, eVar_s, List.getElem?_cons_succ, List.getElem?_cons_zero, ob_some, ix, j2, Option.filter_some, fl_int, if_true, cf]
    · rw [cont_nx]
      refine (end8 (by decide) (by decide) (by decide)).mono fun o ho => ?_
      subst ho
      refine ⟨_, rfl, fin _ (rw_ints (by rw [List.length_append, zl]; simp) fun y hy => ?_)⟩
      rcases List.mem_append.mp hy with hy | hy
      · exact zs y hy
      · rw [List.mem_singleton.mp hy]; exact h2
  refine Go.no ((tw (w := v) rfl 5).trans (by simp [c5])) ?_
  unfold m__law_spoiled_8
  by_cases c6 : v = 6
  · subst c6
    refine Go.yes ((tw (w := (6 : Int)) rfl 6).trans (by simp)) ?_
    unfold m__law_spoiled_c6
    have sl : dSl (intsD z) (some 1) none = some (intsD (z.drop 1)) := sll_from (p := 1)
    have k : (intsD (z.drop 1)).kidsFlat = true := kf_ints
    have il : (intsD z).isLst = true := rfl
    refine Go.put1 (v := intsD (z.drop 1)) (x := .int i) (y := .lst (Z.map intsD)) (z := .lst ((Z.map intsD).set i (intsD (z.drop 1)))) ?_ rfl rfl (pl _) ?_
    · simp only [aCons_s, aNil_s, eP_s, eSl_s, eC_s, eChk_s, oSome_s, oNone_s, eVar_s, List.getElem?_cons_succ, List.getElem?_cons_zero, ob_some, ix, dI2_s, Option.filter_some, il, if_true, sl, k]
    · rw [cont_nx]
      refine (end9 (by decide) (by decide)).mono fun o ho => ?_
      subst ho
      exact ⟨_, rfl, fin _ (rw_ints (by rw [List.length_drop, zl]; omega) fun y hy => zs y (List.mem_of_mem_drop hy))⟩
  refine Go.no ((tw (w := v) rfl 6).trans (by simp [c6])) ?_
  unfold m__law_spoiled_9
  by_cases c7 : v = 7
  · subst c7
    refine Go.yes ((tw (w := (7 : Int)) rfl 7).trans (by simp)) ?_
    unfold m__law_spoiled_c7
    have tu : dTuple [intsD z] = some (.tup (z.map D.int)) := rfl
    have k : (D.tup (z.map D.int)).isFlat = true := by rw [fl_tup]; exact flatL_int z
    refine Go.put1 (v := .tup (z.map D.int)) (x := .int i) (y := .lst (Z.map intsD)) (z := .lst ((Z.map intsD).set i (.tup (z.map D.int)))) ?_ rfl rfl (pl _) ?_
    · simp only [aCons_s, aNil_s, eP_s, eC_s, eChk_s, eVar_s, List.getElem?_cons_succ, List.getElem?_cons_zero, ob_some, ix, tu, Option.filter_some, k, if_true]
    · rw [cont_nx]
      refine (end10 (by decide)).mono fun o ho => ?_
      subst ho
      exact ⟨_, rfl, fin _ (rw_tup (by omega) zs)⟩
  refine Go.no ((tw (w := v) rfl 7).trans (by simp [c7])) ?_
  have c8 : v = 8 := by omega
  subst c8
  unfold m__law_spoiled_10
  have gt : dGt [.int (w : Nat), .int 0] = some (.bl (decide ((w : Int) > 0))) := rfl
  by_cases hw0 : 0 < w
  · have g1 : tOf (eP dGt (aCons (eVar 3) (aCons (eC (.int 0)) aNil))) [TZ h w Z, rowR r0 r1 r2 r3, .int h, .int w, .lst (Z.map intsD), .int 8, .int i] = some true := by
      simp only [tOf_s, eP_s, aCons_s, aNil_s, eVar_s, eC_s, List.getElem?_cons_succ, List.getElem?_cons_zero, ob_some, gt, asB_s]
      congr 1
      exact decide_eq_true (by omega)
    refine Go.yes (by rw [wAnd_s, tw (w := (8 : Int)) rfl 8, g1]; rfl) ?_
    unfold m__law_spoiled_c8
    have mw : dMod [.int r2, .int w] = some (.int (r2 % w)) := dMod_s (by omega)
    obtain ⟨j, hj⟩ : ∃ j : Nat, (j : Int) = r2 % w := ⟨(r2 % w).toNat, Int.toNat_of_nonneg (Int.emod_nonneg _ (by omega))⟩
    have hjl : j < w := by have := Int.emod_lt_of_pos r2 (b := (w : Int)) (by omega); omega
    obtain ⟨d, hd, ed⟩ := VQ.idx_modG id d8 8 r3 (by decide) (by decide)
    rw [List.map_id] at ed
    have m8 : dMod [.int r3, .int 8] = some (.int (r3 % 8)) := dMod_s (by decide)
    have ng : dNeg [.int 1] = some (.int (-1)) := by simp
    have pt := putT_s (d := d) ri (show j < z.length by omega)
    refine go_putT (d := d) (k := .int i) (j := .int j) (dd := .lst (Z.map intsD)) ?_ rfl ?_ rfl pt ?_
    · simp only [aCons_s, aNil_s, eP_s, eC_s, eLst_s, eTup_s, eChk_s, eVar_s, List.getElem?_cons_succ, List.getElem?_cons_zero, ob_some, j3, ng, Option.filter_some, fl_int, if_true, m8]
      exact ed
    · simp only [aCons_s, aNil_s, eP_s, eC_s, eChk_s, eVar_s, List.getElem?_cons_succ, List.getElem?_cons_zero, ob_some, j2, Option.filter_some, fl_int, if_true, mw, hj]
    · rw [cont_nx]
      refine end_ok.mono fun o ho => ?_
      subst ho
      exact ⟨_, rfl, fin _ (rw_set (by omega) zs (d8_mem hd))⟩
  · have g1 : tOf (eP dGt (aCons (eVar 3) (aCons (eC (.int 0)) aNil))) [TZ h w Z, rowR r0 r1 r2 r3, .int h, .int w, .lst (Z.map intsD), .int 8, .int i] = some false := by
      simp only [tOf_s, eP_s, aCons_s, aNil_s, eVar_s, eC_s, List.getElem?_cons_succ, List.getElem?_cons_zero, ob_some, gt, asB_s]
      congr 1
      exact decide_eq_false (by omega)
    refine Go.no (by rw [wAnd_s, tw (w := (8 : Int)) rfl 8, g1]; rfl) ?_
    refine end_ok.mono fun o ho => ?_
    subst ho
    exact ⟨_, rfl, good_tab (thin_int (by omega)) (thin_int (by omega)) (.inl rfl) R0 (by omega) hz⟩
end K01

/-! ## K01q -/
namespace K01
open PySem PySem.Spec PyProof.Rows L2 VV
open VP
open VQ
theorem ne_bl {b : Bool} : dNe [.bl b, .bl b] = some (.bl false) := by cases b <;> rfl
theorem enc_tz {h w : Nat} {f : Nat → Nat → Int} : encT h w f = TZ h w ((List.range h).map fun i => (List.range w).map (f i)) := by
  unfold encT TZ
  rw [List.map_map]
  have e : (fun i => rowD w (f i)) = intsD ∘ fun i => (List.range w).map (f i) := by
    funext i
    show rowD w (f i) = intsD ((List.range w).map (f i))
    unfold rowD intsD
    rw [List.map_map]
    rfl
  rw [e]
/-- one thing -/
theorem turn_ok {d : D} (hg : Good d) {s hd h w t j6 j7 : D} : Go m_law_b1 [s, hd, h, w, t, d, j6, j7] fun o => ∃ ρ2, (o = .nx ρ2 ∨ o = .ct ρ2) ∧ ∃ j5 j6 j7, ρ2 = [s, hd, h, w, t, j5, j6, j7] := by
  unfold m_law_b1
  have sh := show_ok hg
  refine Go.set (d := .str d.toP.shown) (by simp [sh]) ?_
  unfold m_law_b1_1
  have tb := table_pd (tg_good hg)
  refine Go.set (d := .bl (tabW d)) (by simp [tb]) ?_
  unfold m_law_b1_2
  have lt := ltable_pd (tg_good hg)
  have ib : dIsi "bool" [.bl (tabW d)] = some (.bl true) := isi_bl.2
  have nb := ne_bl (b := tabW d)
  have ns : dNeS [.str d.toP.shown, .str d.toP.shown] = some (.bl false) := by
    show some (D.bl (!decide (d.toP.shown = d.toP.shown))) = _
    simp
  rw [go_f (by simp [ib, lt, nb, sh, ns]), go_nil]
  exact ⟨_, .inl rfl, _, _, _, rfl⟩
theorem rest_ok {ns : List Int} {a0 a1 a2 a3 a4 a5 a6 a7 : Int} (h6 : Sm a6) {h w : Nat} (hh : h ≤ 1000) (hw : w ≤ 1000) (hz : (h + 1) * ((w + 2) * 70) ≤ 190000) :
    Go m_law_3 [.scr (ns.map D.int), intsD [a0, a1, a2, a3, a4, a5, a6, a7], .int h, .int w, .non, .non, .non, .non] fun o => outR (some o) = some (.ret (.bl true)) := by
  unfold m_law_3
  have k1 : f__law_cell_at [.scr (ns.map D.int), .int 1] = some (.ret (.int (ns.getD 1 0))) := cell_ok ns 1
  have k2 : f__law_cell_at [.scr (ns.map D.int), .int 2] = some (.ret (.int (ns.getD 2 0))) := cell_ok ns 2
  obtain ⟨f, ht, hf⟩ := table_ok (ns.getD 1 0) h w hh hw
  obtain ⟨Z, hZ⟩ : ∃ Z, Z = (List.range h).map fun i => (List.range w).map (f i) := ⟨_, rfl⟩
  rw [enc_tz, ← hZ] at ht
  have z1 : Z.length = h := by rw [hZ, List.length_map, List.length_range]
  have z2 : ∀ z ∈ Z, z.length = w ∧ ∀ x ∈ z, Sm x := fun z hz => by
    rw [hZ] at hz
    obtain ⟨i, hi, rfl⟩ := List.mem_map.mp hz
    refine ⟨by rw [List.length_map, List.length_range], fun x hx => ?_⟩
    obtain ⟨j, hj, rfl⟩ := List.mem_map.mp hx
    exact (hf i j (List.mem_range.mp hi) (List.mem_range.mp hj)).mono (m := 64) (by decide)
  refine Go.set (d := TZ h w Z) (by simp only [eCall_s, aCons_s, aNil_s, eVar_s, eC_s, List.getElem?_cons_succ, List.getElem?_cons_zero, ob_some, k1, asRet_s, ht]) ?_
  unfold m_law_4
  obtain ⟨sp, hs, gs⟩ := spoiled_ok (r0 := a4) (r1 := a5) (r2 := a6) (r3 := a7) z1 z2 hh hw hz h6
  obtain ⟨od, ho, go⟩ := odd_ok (ns.getD 2 0)
  have gt : Good (TZ h w Z) := good_tab (h := h) (w := w) (thin_int (by omega)) (thin_int (by omega)) (.inl rfl) (rws z2) (by rw [List.length_map, z1]; omega) hz
  have sl : dSl (intsD [a0, a1, a2, a3, a4, a5, a6, a7]) (some 4) none = some (rowR a4 a5 a6 a7) := sll_from (l := [a0, a1, a2, a3, a4, a5, a6, a7]) (p := 4)
  have il : (intsD [a0, a1, a2, a3, a4, a5, a6, a7]).isLst = true := rfl
  rw [go_seq]
  refine go_for (id : D → D) [TZ h w Z, sp, od] (fun _ ρ => ∃ j5 j6 j7, ρ = [.scr (ns.map D.int), intsD [a0, a1, a2, a3, a4, a5, a6, a7], .int h, .int w, TZ h w Z, j5, j6, j7]) ?_ ⟨_, _, _, rfl⟩ (fun i d ρ hi hR => ?_) (fun ρ' hR => ?_)
  · show iLst _ [.scr (ns.map D.int), intsD [a0, a1, a2, a3, a4, a5, a6, a7], .int h, .int w, TZ h w Z, .non, .non, .non] = _
    simp only [iLst_s, eLst_s, eCall_s, aCons_s, aNil_s, eVar_s, eC_s, eSl_s, eChk_s, oSome_s, oNone_s, List.getElem?_cons_succ, List.getElem?_cons_zero, ob_some, dI2_s, Option.filter_some, il, if_true, sl, asRet_s, hs, k2, ho]
    simp
  · obtain ⟨j5, j6, j7, rfl⟩ := hR
    have hm := List.mem_of_getElem? hi
    have gd : Good d := by
      simp only [List.mem_cons, List.not_mem_nil, or_false] at hm
      rcases hm with rfl | rfl | rfl
      · exact gt
      · exact gs
      · exact go
    exact ⟨[.scr (ns.map D.int), intsD [a0, a1, a2, a3, a4, a5, a6, a7], .int h, .int w, TZ h w Z, d, j6, j7], rfl, turn_ok gd⟩
  · obtain ⟨j5, j6, j7, rfl⟩ := hR
    rw [cont_nx]
    exact Go.ret (d := .bl true) (by simp) rfl
theorem law_true : ∀ ns : List Int, ns.length ≤ 63 → (∀ z ∈ ns, Builtin.Int.intBits z ≤ 1048576) → f_law [.scr (ns.map D.int)] = some (.ret (.bl true)) := by
  intro ns hlen hbits
  refine fn_go (by simp) ?_
  show Go m_law [.scr (ns.map D.int), .non, .non, .non, .non, .non, .non, .non] _
  unfold m_law
  have k0 : f__law_cell_at [.scr (ns.map D.int), .int 0] = some (.ret (.int (ns.getD 0 0))) := cell_ok ns 0
  obtain ⟨r, hr, hl, hb⟩ := row_ok (ns.getD 0 0) 8 4096 (by decide) (by decide) (by decide)
  match r, hl with
  | [a0, a1, a2, a3, a4, a5, a6, a7], _ =>
    have hr : f__law_row [.int (ns.getD 0 0), .int 8, .int 4096] = some (.ret (intsD [a0, a1, a2, a3, a4, a5, a6, a7])) := hr
    have kf : (intsD [a0, a1, a2, a3, a4, a5, a6, a7]).kidsFlat = true := kf_ints
    refine Go.set (d := intsD [a0, a1, a2, a3, a4, a5, a6, a7]) (by simp only [eChk_s, eCall_s, aCons_s, aNil_s, eVar_s, eC_s, List.getElem?_cons_zero, ob_some, k0, asRet_s, hr, Option.filter_some, kf, if_true]) ?_
    unfold m_law_1
    have b0 := hb a0 (by simp)
    have b1 := hb a1 (by simp)
    have b2 := hb a2 (by simp)
    have b3 := hb a3 (by simp)
    have b6 := hb a6 (by simp)
    have h6 : Sm a6 := by unfold Sm; omega
    have i0 : dIdx [intsD [a0, a1, a2, a3, a4, a5, a6, a7], .int 0] = some (.int a0) := rfl
    have i1 : dIdx [intsD [a0, a1, a2, a3, a4, a5, a6, a7], .int 1] = some (.int a1) := rfl
    have i2 : dIdx [intsD [a0, a1, a2, a3, a4, a5, a6, a7], .int 2] = some (.int a2) := rfl
    have i3 : dIdx [intsD [a0, a1, a2, a3, a4, a5, a6, a7], .int 3] = some (.int a3) := rfl
    have m7 : ∀ x : Int, dMod [.int x, .int 7] = some (.int (x % 7)) := fun x => dMod_s (by decide)
    have m8 : ∀ x : Int, dMod [.int x, .int 8] = some (.int (x % 8)) := fun x => dMod_s (by decide)
    have m2 : ∀ x : Int, dMod [.int x, .int 2] = some (.int (x % 2)) := fun x => dMod_s (by decide)
    have m3 : ∀ x : Int, dMod [.int x, .int 3] = some (.int (x % 3)) := fun x => dMod_s (by decide)
    have m400 : ∀ x : Int, dMod [.int x, .int 400] = some (.int (x % 400)) := fun x => dMod_s (by decide)
    obtain ⟨p, hp⟩ : ∃ p : Nat, (p : Int) = a0 % 7 := ⟨(a0 % 7).toNat, by omega⟩
    obtain ⟨q, hq⟩ : ∃ q : Nat, (q : Int) = a1 % 7 := ⟨(a1 % 7).toNat, by omega⟩
    obtain ⟨u, hu⟩ : ∃ u : Nat, (u : Int) = a3 % 400 := ⟨(a3 % 400).toNat, by omega⟩
    obtain ⟨v, hv⟩ : ∃ v : Nat, (v : Int) = a1 % 3 := ⟨(a1 % 3).toNat, by omega⟩
    refine Go.par (d := .int p) (e := .int q) (by simp only [aCons_s, aNil_s, eP_s, eC_s, eChk_s, eVar_s, List.set_cons_succ, List.set_cons_zero, List.getElem?_cons_succ, List.getElem?_cons_zero, ob_some, i0, i1, Option.filter_some, fl_int, if_true, m7, hp, hq]) ?_
    show Go _ [.scr (ns.map D.int), intsD [a0, a1, a2, a3, a4, a5, a6, a7], .int p, .int q, .non, .non, .non, .non] _
    unfold m_law_2
    have test : tOf (eP dEq (aCons (eP dMod (aCons (eChk D.isFlat (eP dIdx (aCons (eVar 1) (aCons (eC (.int 2)) aNil)))) (aCons (eC (.int 8)) aNil))) (aCons (eC (.int 5)) aNil))) [.scr (ns.map D.int), intsD [a0, a1, a2, a3, a4, a5, a6, a7], .int p, .int q, .non, .non, .non, .non] = some (decide (a2 % 8 = 5)) := by
      simp only [tOf_s, aCons_s, aNil_s, eP_s, eC_s, eChk_s, eVar_s, List.getElem?_cons_succ, List.getElem?_cons_zero, ob_some, i2, Option.filter_some, fl_int, if_true, m8, eqInt, asB_s]
    by_cases h5 : a2 % 8 = 5
    · refine Go.yes (test.trans (by simp [h5])) ?_
      unfold m_law_c1
      have dv : dDiv [.int a2, .int 8] = some (.int (a2 / 8)) := dDiv_s (cdv (by decide) (by decide))
      obtain ⟨t, ht, et⟩ := VQ.idx_modG id [D.tup [.int u, .int v], .tup [.int v, .int u]] 2 (a2 / 8) rfl (by simp)
      rw [List.map_id] at et
      have et : dIdx [.lst [D.tup [.int u, .int v], .tup [.int v, .int u]], .int (a2 / 8 % 2)] = some t := et
      have ft : ∃ x y : Nat, t = .tup [.int x, .int y] ∧ ((x = u ∧ y = v) ∨ (x = v ∧ y = u)) := by
        simp only [List.mem_cons, List.not_mem_nil, or_false] at ht
        rcases ht with rfl | rfl
        · exact ⟨u, v, rfl, .inl ⟨rfl, rfl⟩⟩
        · exact ⟨v, u, rfl, .inr ⟨rfl, rfl⟩⟩
      obtain ⟨x, y, rfl, hxy⟩ := ft
      have fl : (D.tup [.int (x : Int), .int (y : Int)]).isFlat = true := by simp [D.isFlatL]
      rw [go_asg]
      refine ⟨.tup [.int x, .int y], ?_, [.scr (ns.map D.int), intsD [a0, a1, a2, a3, a4, a5, a6, a7], .int x, .int y, .non, .non, .non, .non], by simp, ?_⟩
      · simp only [aCons_s, aNil_s, eP_s, eC_s, eLst_s, eTup_s, eChk_s, eVar_s, List.getElem?_cons_succ, List.getElem?_cons_zero, ob_some, i1, i2, i3, Option.filter_some, fl_int, if_true, m3, m400, ← hu, ← hv, dv, m2, et, fl]
      · rw [cont_nx]
        rcases hxy with ⟨rfl, rfl⟩ | ⟨rfl, rfl⟩
        · refine rest_ok h6 (by omega) (by omega) ?_
          have h1 : x + 1 ≤ 400 := by omega
          have h2 : (y + 2) * 70 ≤ 280 := by omega
          exact Nat.le_trans (Nat.mul_le_mul h1 h2) (by decide)
        · refine rest_ok h6 (by omega) (by omega) ?_
          have h1 : x + 1 ≤ 3 := by omega
          have h2 : (y + 2) * 70 ≤ 28070 := by omega
          exact Nat.le_trans (Nat.mul_le_mul h1 h2) (by decide)
    · refine Go.no (test.trans (by simp [h5])) ?_
      refine rest_ok h6 (by omega) (by omega) ?_
      have h1 : p + 1 ≤ 7 := by omega
      have h2 : (q + 2) * 70 ≤ 560 := by omega
      exact Nat.le_trans (Nat.mul_le_mul h1 h2) (by decide)
end K01

/-! ## K01h -/
namespace K01
open PySem PySem.Spec PyProof.Rows L2 VV
open VP
open VQ
theorem facts {P : Program} {w : World} {K : PySem.W.Frag} {h : Heap} {mg : Str → Option Value} {f : Addr} (X : K.In h) (G : h.Ns mainGlobals mg) (hfa : mg ("law" : Str) = some (.ref f)) (c : He.SaysD faD fnD K) :
    ∃ fd : FuncData, (∀ (s : Shared) (v : Value), BindsTo s fd ⟨[v], []⟩ [("_law_script", v)]) ∧ ∀ base : Heap, K.In base → base.Ns mainGlobals mg → OkC P w K mg base f fd ["_law_script"] (sp0 ⟨mg, K⟩ f_law 1 .flat) := by
  obtain ⟨fd__law_row, F__law_row⟩ := c.def_ 0 (d := dd__law_row) rfl
  obtain ⟨fd__law_entry, F__law_entry⟩ := c.def_ 1 (d := dd__law_entry) rfl
  obtain ⟨fd__law_table, F__law_table⟩ := c.def_ 2 (d := dd__law_table) rfl
  obtain ⟨fd__law_cell_at, F__law_cell_at⟩ := c.def_ 3 (d := dd__law_cell_at) rfl
  obtain ⟨fd__law_copy, F__law_copy⟩ := c.def_ 4 (d := dd__law_copy) rfl
  obtain ⟨fd__law_spoiled, F__law_spoiled⟩ := c.def_ 5 (d := dd__law_spoiled) rfl
  obtain ⟨fd__law_odd, F__law_odd⟩ := c.def_ 6 (d := dd__law_odd) rfl
  obtain ⟨fd_is_whole, F_is_whole⟩ := c.def_ 7 (d := dd_is_whole) rfl
  obtain ⟨fd_is_size, F_is_size⟩ := c.def_ 8 (d := dd_is_size) rfl
  obtain ⟨fd_is_row, F_is_row⟩ := c.def_ 9 (d := dd_is_row) rfl
  obtain ⟨fd_is_table, F_is_table⟩ := c.def_ 10 (d := dd_is_table) rfl
  obtain ⟨fd__law_whole, F__law_whole⟩ := c.def_ 11 (d := dd__law_whole) rfl
  obtain ⟨fd__law_is_table, F__law_is_table⟩ := c.def_ 12 (d := dd__law_is_table) rfl
  obtain ⟨fd_law, F_law⟩ := c.def_ 13 (d := dd_law) rfl
  have b_all : mg "all" = none := He.free_ok X G (c.fact 14 (f := .free "all") rfl)
  have b_bool : mg "bool" = none := He.free_ok X G (c.fact 15 (f := .free "bool") rfl)
  have b_int : mg "int" = none := He.free_ok X G (c.fact 16 (f := .free "int") rfl)
  have b_isinstance : mg "isinstance" = none := He.free_ok X G (c.fact 17 (f := .free "isinstance") rfl)
  have b_len : mg "len" = none := He.free_ok X G (c.fact 18 (f := .free "len") rfl)
  have b_list : mg "list" = none := He.free_ok X G (c.fact 19 (f := .free "list") rfl)
  have b_range : mg "range" = none := He.free_ok X G (c.fact 20 (f := .free "range") rfl)
  have b_repr : mg "repr" = none := He.free_ok X G (c.fact 21 (f := .free "repr") rfl)
  have b_tuple : mg "tuple" = none := He.free_ok X G (c.fact 22 (f := .free "tuple") rfl)
  have e := hfa.symm.trans (He.glo_ok X G (c.fact 13 (f := .glo "law") rfl))
  cases e
  have bb := FunD.bindsA (ps := ["_law_script"]) F_law fun _ _ _ _ _ _ us hl => match us, hl with | [_], _ => rfl
  refine ⟨fd_law, fun s v => bb s [v] rfl, fun base _ _ => ?_⟩
  have c__law_row : Cal P w K mg base "_law_row" 1 ["_law_cell", "_law_many", "_law_base"] f__law_row .fresh := cal__law_row F__law_row (He.glo_ok X G (c.fact 0 (f := .glo "_law_row") rfl)) b_range
  have c__law_entry : Cal P w K mg base "_law_entry" 1 ["_law_digit"] f__law_entry .flat := cal__law_entry F__law_entry (He.glo_ok X G (c.fact 1 (f := .glo "_law_entry") rfl))
  have c__law_table : Cal P w K mg base "_law_table" 2 ["_law_cell", "_law_high", "_law_wide"] f__law_table .fresh := cal__law_table F__law_table (He.glo_ok X G (c.fact 2 (f := .glo "_law_table") rfl)) b_range c__law_row c__law_entry
  have c__law_cell_at : Cal P w K mg base "_law_cell_at" 1 ["_law_script", "_law_k"] f__law_cell_at .flat := cal__law_cell_at F__law_cell_at (He.glo_ok X G (c.fact 3 (f := .glo "_law_cell_at") rfl)) b_len
  have c__law_copy : Cal P w K mg base "_law_copy" 1 ["_law_one"] f__law_copy .fresh := cal__law_copy F__law_copy (He.glo_ok X G (c.fact 4 (f := .glo "_law_copy") rfl)) b_list
  have c__law_spoiled : Cal P w K mg base "_law_spoiled" 2 ["_law_table_here", "_law_row_here"] f__law_spoiled .news := cal__law_spoiled F__law_spoiled (He.glo_ok X G (c.fact 5 (f := .glo "_law_spoiled") rfl)) b_tuple c__law_copy
  have c__law_odd : Cal P w K mg base "_law_odd" 1 ["_law_k"] f__law_odd .news := cal__law_odd F__law_odd (He.glo_ok X G (c.fact 6 (f := .glo "_law_odd") rfl))
  have c_is_whole : Cal P w K mg base "is_whole" 1 ["thing"] f_is_whole .flat := cal_is_whole F_is_whole (He.glo_ok X G (c.fact 7 (f := .glo "is_whole") rfl)) b_bool b_int b_isinstance
  have c_is_size : Cal P w K mg base "is_size" 2 ["thing"] f_is_size .flat := cal_is_size F_is_size (He.glo_ok X G (c.fact 8 (f := .glo "is_size") rfl)) c_is_whole
  have c_is_row : Cal P w K mg base "is_row" 2 ["thing", "wide"] f_is_row .flat := cal_is_row F_is_row (He.glo_ok X G (c.fact 9 (f := .glo "is_row") rfl)) b_all b_isinstance b_len b_list c_is_whole
  have c_is_table : Cal P w K mg base "is_table" 3 ["thing"] f_is_table .flat := cal_is_table F_is_table (He.glo_ok X G (c.fact 10 (f := .glo "is_table") rfl)) b_all b_isinstance b_len b_list b_tuple c_is_size c_is_row
  have c__law_whole : Cal P w K mg base "_law_whole" 1 ["_law_thing"] f__law_whole .flat := cal__law_whole F__law_whole (He.glo_ok X G (c.fact 11 (f := .glo "_law_whole") rfl)) b_bool b_int b_isinstance
  have c__law_is_table : Cal P w K mg base "_law_is_table" 2 ["_law_thing"] f__law_is_table .flat := cal__law_is_table F__law_is_table (He.glo_ok X G (c.fact 12 (f := .glo "_law_is_table") rfl)) b_isinstance b_len b_list b_tuple c__law_whole
  exact ok_law F_law b_bool b_isinstance b_repr c__law_row c__law_cell_at c__law_table c__law_spoiled c__law_odd c_is_table c__law_is_table
end K01
open PySem PySem.W PySem.Calls PyProof.Rows
set_option maxRecDepth 100000 in
set_option maxHeartbeats 0 in
theorem PySem.Challenge.cw_loopcube_k01_what_is_a_table_holds : PySem.Challenge.rw_loopcube_k01_what_is_a_table.Holds := by
  w_on; o_law
  refine HandSHeadRun.head_any (r := OpenLaw.row PySem.Challenge.rw_loopcube_k01_what_is_a_table) (q := view (OpenLaw.row PySem.Challenge.rw_loopcube_k01_what_is_a_table).prog [15]) (H := K01.hk) (ob := K01.ob) (M := 4000) (loose := ["is_whole", "is_size", "is_row", "is_table", "_law_cell_at", "_law_row", "_law_entry", "_law_table", "_law_copy", "_law_whole", "_law_is_table", "_law_odd", "_law_spoiled", "__name__"]) (d := HandSHeadRun.topDef (OpenLaw.row PySem.Challenge.rw_loopcube_k01_what_is_a_table).prog 15) (kwd := []) K01.ob_eq
    (by kernel_rfl) (fun s => by kernel_rfl) K01.run (by kernel_rfl) (by kernel_rfl) (by kernel_rfl) (by rfl) (by first | assumption | decide +kernel) (by decide +kernel) ⟨rfl, rfl, rfl, rfl, rfl, by decide +kernel⟩ ?hw ?hc
  case hw => w_witness2
  case hc =>
    refine VV.walk_VC (l := PySem.Challenge.rw_loopcube_k01_what_is_a_table) (n := 63) (x := "_law_script") (sem := K01.f_law) (R := .flat) rfl (by decide) (by kernel_rfl) K01.law_true ?F
    intro w mg fa h Y G hmg0
    obtain ⟨K, KX, c⟩ := Y
    have hmg : mg ("law" : PySem.Str) = some (.ref fa) := by
      have e : (HandSHeadRun.topDef (OpenLaw.row PySem.Challenge.rw_loopcube_k01_what_is_a_table).prog 15).name = ("law" : PySem.Str) := by kernel_rfl
      rw [← e]
      exact hmg0
    obtain ⟨fd, hb, hF⟩ := K01.facts (P := (PySem.Challenge.rw_loopcube_k01_what_is_a_table).prog) (w := w) KX G hmg c
    exact ⟨K, fd, KX, hb, hF⟩
